import PyProof.Rows.All
import Wide.All
import OpenK.AllK
import Wide.FinOn
import PyProof.EqAt
import PyProof.EqKinds
import PyProof.TupleCall
import KE.KStateDown
import KE.GoesSet
import KE.GoesEnum
import KE.GoesNew
import KE.KUnpackStar
import HandS.ForMost
import HandS.Walk
import HandS.Star
import HandS.MethStar
import HandS.Property
import HandS.ClsMeth
import HandS.Defaults
import HandS.MakeKw
import HandS.MakeKwOnly
import HandS.IsInst
import HandS.GenList
import HandS.TupMul
import HandS.TupLe
import HandS.TupAny
import HandS.Conv
import HandS.Style
import HandS.Flow
import HandS.DictTup
import HandS.TupSets
import HandS.NoneIn
import HandS.HeadHook1
import HandS.HeadHook2
import HandS.HeadEnd
import HandS.Head0
import HandS.Head1
import HandS.Head2
import HandS.Nested
import KE.KSuper
import KE.KeyNested
import KE.SortCalls
import HandS.SetBool
import HandS.SortKw
import KE.DataMinMax
import KE.KDictWalk
import PySem.Challenge.RW_struckring_k57_whole_rows_read_back_and
set_option Elab.async false
set_option linter.all false
set_option maxRecDepth 100000
set_option maxHeartbeats 4000000
/-! Base: the text by places, what a call keeps, data of tuples, defs by name. -/
namespace Sr
open PySem PySem.Spec PyProof.Rows L2

/-! ### the text -/
def top (i : Nat) : Stmt := PySem.Challenge.pw_struckring_k57_whole_rows_read_back_and.main.body.getD i (.Pass ⟨0, 0, 0, 0⟩)

/-! ### what is kept: the tuples, and all that is tracked but what stands at S -/
structure Kp (S : List Addr) (H H' : Hp) : Prop where
  tup : ∀ b xs, H b = some (.tup xs) → H' b = some (.tup xs)
  oth : ∀ b o, b ∉ S → H b = some o → H' b = some o
  dom : ∀ b, H' b = none → H b = none
theorem updNone {H : Hp} {a b : Addr} {o : HO} (h : upd H a o b = none) : b ≠ a ∧ H b = none := by
  by_cases e : b = a
  · rw [e, upd_same] at h; cases h
  · rw [upd_ne e] at h; exact ⟨e, h⟩
namespace Kp
variable {S S' : List Addr} {H H1 H2 : Hp} {a : Addr} {o u : HO}
theorem refl (S : List Addr) (H : Hp) : Kp S H H := ⟨fun _ _ e => e, fun _ _ _ e => e, fun _ e => e⟩
theorem trans (x : Kp S H H1) (y : Kp S H1 H2) : Kp S H H2 := ⟨fun b xs e => y.tup b xs (x.tup b xs e), fun b o n e => y.oth b o n (x.oth b o n e), fun b e => x.dom b (y.dom b e)⟩
theorem mono (x : Kp S H H1) (h : ∀ b ∈ S, b ∈ S') : Kp S' H H1 := ⟨x.tup, fun b o n e => x.oth b o (fun m => n (h b m)) e, x.dom⟩
theorem wid (x : Kp [] H H1) : Kp S H H1 := x.mono fun _ m => nomatch m
theorem new (h : H a = none) : Kp S H (upd H a o) := ⟨fun b xs e => by rw [upd_ne (ne_of_none e h)]; exact e, fun b u _ e => by rw [upd_ne (ne_of_none e h)]; exact e, fun _ e => (updNone e).2⟩
theorem put (m : a ∈ S) (h : H a = some u) (nt : ∀ xs, u ≠ .tup xs) : Kp S H (upd H a o) :=
  ⟨fun b xs e => by rw [upd_ne (fun z => nt xs (by rw [z, h] at e; exact Option.some.inj e))]; exact e, fun b v n e => by rw [upd_ne (fun z => n (by rw [z]; exact m))]; exact e, fun _ e => (updNone e).2⟩
theorem same (x : Kp [] H H1) : Same H H1 := fun b o e => x.oth b o (fun m => nomatch m) e
theorem ofSame (x : Same H H1) : Kp S H H1 := ⟨fun b xs e => x b _ e, fun b o _ e => x b o e, fun _ e => x.free e⟩
theorem free (x : Kp S H H1) (h : H1 a = none) : H a = none := x.dom a h
theorem get (x : Kp [] H H1) (h : H a = some o) : H1 a = some o := x.oth a o (fun m => nomatch m) h
theorem newT (x : Kp S H H1) (h : H1 a = none) : Kp S H (upd H1 a o) := x.trans (new h)
/-- something made on the way may change -/
theorem chg (x : Kp S H H1) (h : H a = none) : Kp S H (upd H1 a o) :=
  ⟨fun b xs e => by rw [upd_ne (ne_of_none e h)]; exact x.tup b xs e, fun b u n e => by rw [upd_ne (ne_of_none e h)]; exact x.oth b u n e, fun b e => x.dom b (updNone e).2⟩
theorem putT (x : Kp S H H1) (m : a ∈ S) (h : H1 a = some u) (nt : ∀ xs, u ≠ .tup xs) : Kp S H (upd H1 a o) := x.trans (put m h nt)
/-- what a part changes may be an object that was made on the way -/
theorem thenM (x : Kp S H H1) (y : Kp S' H1 H2) (h : ∀ b ∈ S', b ∈ S ∨ H b = none) : Kp S H H2 :=
  ⟨fun b xs e => y.tup b xs (x.tup b xs e), fun b o n e => y.oth b o (fun m => (h b m).elim n fun z => by rw [z] at e; cases e) (x.oth b o n e), fun b e => x.dom b (y.dom b e)⟩
end Kp

/-! ### data: nothing, truth values, numbers, texts, tuples of these -/
mutual
inductive TD (H : Hp) : V → PyData → Prop
  | non : TD H .non .none
  | bl (b : Bool) : TD H (.bl b) (.bool b)
  | int (i : Int) : TD H (.int i) (.int i)
  | str (x : Str) : TD H (.str x) (.str x)
  | tup {a : Addr} {xs : List V} {ds : List PyData} : H a = some (.tup xs) → TDs H xs ds → TD H (.ref a) (.tuple ds)
inductive TDs (H : Hp) : List V → List PyData → Prop
  | nil : TDs H [] []
  | cons {v : V} {vs : List V} {d : PyData} {ds : List PyData} : TD H v d → TDs H vs ds → TDs H (v :: vs) (d :: ds)
end
section
variable {K : PySem.W.Frag} {H H' : Hp}
mutual
theorem TD.dp : ∀ {v : V} {d : PyData}, TD H v d → Dp K H v d
  | _, _, .non => .non
  | _, _, .bl b => .bl b
  | _, _, .int i => .int i
  | _, _, .str x => .str x
  | _, _, .tup h r => .tup (SqT.of h) (TDs.dp r)
theorem TDs.dp : ∀ {vs : List V} {ds : List PyData}, TDs H vs ds → DpAll K H vs ds
  | _, _, .nil => .nil
  | _, _, .cons a r => .cons (TD.dp a) (TDs.dp r)
end
mutual
theorem TD.mono (k : ∀ b xs, H b = some (.tup xs) → H' b = some (.tup xs)) : ∀ {v : V} {d : PyData}, TD H v d → TD H' v d
  | _, _, .non => .non
  | _, _, .bl b => .bl b
  | _, _, .int i => .int i
  | _, _, .str x => .str x
  | _, _, .tup h r => .tup (k _ _ h) (TDs.mono k r)
theorem TDs.mono (k : ∀ b xs, H b = some (.tup xs) → H' b = some (.tup xs)) : ∀ {vs : List V} {ds : List PyData}, TDs H vs ds → TDs H' vs ds
  | _, _, .nil => .nil
  | _, _, .cons a r => .cons (TD.mono k a) (TDs.mono k r)
end
theorem TD.kp {S : List Addr} {v : V} {d : PyData} (x : TD H v d) (k : Kp S H H') : TD H' v d := x.mono k.tup
theorem TDs.kp {S : List Addr} {v : List V} {d : List PyData} (x : TDs H v d) (k : Kp S H H') : TDs H' v d := x.mono k.tup
theorem TDs.app : ∀ {xs ys : List V} {ds es : List PyData}, TDs H xs ds → TDs H ys es → TDs H (xs ++ ys) (ds ++ es)
  | _, _, _, _, .nil, r => r
  | _, _, _, _, .cons a t, r => .cons a (TDs.app t r)
theorem TDs.len : ∀ {xs : List V} {ds : List PyData}, TDs H xs ds → xs.length = ds.length
  | _, _, .nil => rfl
  | _, _, .cons _ t => by rw [List.length_cons, List.length_cons, TDs.len t]
theorem TDs.one {v : V} {d : PyData} (h : TD H v d) : TDs H [v] [d] := .cons h .nil
theorem TDs.ints : ∀ ns : List Int, TDs H (ns.map V.int) (ns.map PyData.int)
  | [] => .nil
  | n :: ns => .cons (.int n) (TDs.ints ns)
theorem TDs.get : ∀ {xs : List V} {ds : List PyData} {i : Nat} {d : PyData}, TDs H xs ds → ds[i]? = some d → ∃ v, xs[i]? = some v ∧ TD H v d
  | _, _, _, _, .nil, e => by simp at e
  | _, _, 0, _, .cons a _, e => by simp at e; subst e; exact ⟨_, rfl, a⟩
  | _, _, i + 1, d, .cons _ t, e => by
    obtain ⟨v, h1, h2⟩ := TDs.get (i := i) (d := d) t (by simpa using e)
    exact ⟨v, by simpa using h1, h2⟩
theorem TDs.at : ∀ {xs : List V} {ds : List PyData} {i : Nat} {v : V}, TDs H xs ds → xs[i]? = some v → ∃ d, ds[i]? = some d ∧ TD H v d
  | _, _, _, _, .nil, e => by simp at e
  | _, _, 0, _, .cons a _, e => by simp at e; subst e; exact ⟨_, rfl, a⟩
  | _, _, i + 1, d, .cons _ t, e => by
    obtain ⟨v, h1, h2⟩ := TDs.at (i := i) (v := d) t (by simpa using e)
    exact ⟨v, by simpa using h1, h2⟩
theorem TDs.ofInts : ∀ {xs : List V} {ns : List Int}, TDs H xs (ns.map PyData.int) → xs = ns.map V.int
  | _, [], .nil => rfl
  | _, n :: ns, .cons a t => by
    cases a
    rw [List.map_cons, TDs.ofInts t]
theorem TD.tupI {v : V} {ds : List PyData} (h : TD H v (.tuple ds)) : ∃ a xs, v = .ref a ∧ H a = some (.tup xs) ∧ TDs H xs ds := by
  cases h with
  | tup h1 h2 => exact ⟨_, _, rfl, h1, h2⟩
end

/-! ### a def of the module, by its name -/
structure GF (P : Program) (w : World) (K : PySem.W.Frag) (mg : Str → Option Value) (base : Heap) (k : Nat) (x : Str) (ps : List Str) (sp : Sp) : Prop where
  ex : ∃ (f : Addr) (fd : FuncData), mg x = some (.ref f) ∧ PySem.W.keepIn K (.ref f) = true ∧ Binds K fd ps [] ∧ FnOk P w K mg base CX0 k f fd ps sp
section
variable {X : Cx} {k : Nat} {x m : Str} {ps : List Str} {sp : Sp} {p pos apos : Pos} {e o : Expr} {es : List Expr} {t : TA} {ta : TE}
theorem pe_gf (G : GF X.prog X.w X.K X.mg X.base k x ps sp) (hr : Room k X.A) (hg : Gl X x) (ha : PA X (e :: es) t)
    (hdb : (x == ("__debug__" : Str)) = false := by decide) (he : starEach (e :: es) X.env = (false, eval e X.env) :: starEach es X.env := by rfl) (hpl : (backTo pos (starEach es X.env)).any (·.1) = false := by rfl) :
    PE X (.Call (.Name x p) (e :: es) [] pos) (tCall sp [] E0 t) := by
  obtain ⟨f, fd, h1, h2, h3, h4⟩ := G.ex
  exact pe_call h4 hr hg h1 h2 h3 .nil pass0 ha hdb he hpl
/-- a method of the class at C -/
structure GM (P : Program) (w : World) (K : PySem.W.Frag) (mg : Str → Option Value) (base : Heap) (k : Nat) (C : Addr) (m : Str) (ps : List Str) (sp : Sp) : Prop where
  cl : Cls K C
  ex : ∃ (f : Addr) (fd : FuncData), Meth K C m f ∧ Binds K fd ps [] ∧ FnOk P w K mg base CX0 k f fd ps sp
variable {C : Addr}
theorem pe_gm {pl : Sem Bool} (G : GM X.prog X.w X.K X.mg X.base k C m ps sp) (hr : Room k X.A) (he : PE X o ta) (ha : PA X (e :: es) t)
    (hst : starEach (e :: es) X.env = (false, eval e X.env) :: starEach es X.env := by rfl) (hpl : (backTo pos (starEach es X.env)).any (·.1) = false := by rfl)
    (ht : eval (.Call (.Attribute o m apos) (e :: es) [] pos) X.env = (do
      let ov ← eval o X.env
      standAt apos.atName
      let (g, first) ← holding [ov] (getMethod ov m pl)
      callWith pos g first (backTo pos (starEach (e :: es) X.env)) (backToKw pos (keywordEach [] X.env))) := by rfl) :
    PE X (.Call (.Attribute o m apos) (e :: es) [] pos) (tMeth C m sp [] E0 ta t) := by
  obtain ⟨f, fd, h1, h2, h3⟩ := G.ex
  exact pe_meth he G.cl h1 h3 hr h2 .nil pass0 ha hst hpl ht
theorem pe_gm0 {pl : Sem Bool} (G : GM X.prog X.w X.K X.mg X.base k C m ps sp) (hr : Room k X.A) (he : PE X o ta)
    (ht : eval (.Call (.Attribute o m apos) [] [] pos) X.env = (do
      let ov ← eval o X.env
      standAt apos.atName
      let (g, first) ← holding [ov] (getMethod ov m pl)
      callWith pos g first (backTo pos (starEach [] X.env)) (backToKw pos (keywordEach [] X.env))) := by rfl) :
    PE X (.Call (.Attribute o m apos) [] [] pos) (tMeth C m sp [] E0 ta tNil) := by
  obtain ⟨f, fd, h1, h2, h3⟩ := G.ex
  exact pe_meth0 he G.cl h1 h3 hr h2 .nil pass0 ht
/-- a property of the class at C -/
structure GP (P : Program) (w : World) (K : PySem.W.Frag) (mg : Str → Option Value) (base : Heap) (k : Nat) (C : Addr) (f : Str) (sp : Sp) : Prop where
  cl : Cls K C
  ex : ∃ (q g : Addr) (fd : FuncData), PropOf K C f q g ∧ Binds K fd ["self"] [] ∧ FnOk P w K mg base CX0 k g fd ["self"] sp
theorem pe_gp (G : GP X.prog X.w X.K X.mg X.base k C m sp) (hr : Room (k + 1) X.A) (he : PE X o ta) (hab : attributeBase o m X.env (eval o X.env) = eval o X.env := by rfl) :
    PE X (.Attribute o m pos) (tProp C sp [] E0 ta) := by
  obtain ⟨q, g, fd, h1, h2, h3⟩ := G.ex
  exact pe_prop he G.cl h1 h3 hr h2 .nil (pass0 (X := X.nox)) hab
theorem GF.mono {P : Program} {w : World} {K : PySem.W.Frag} {mg : Str → Option Value} {base : Heap} {j : Nat} (G : GF P w K mg base j x ps sp) (h : j ≤ k) : GF P w K mg base k x ps sp := by
  obtain ⟨f, fd, h1, h2, h3, h4⟩ := G.ex
  exact ⟨f, fd, h1, h2, h3, h4.mono h⟩
end
/-- where a def stands and what it is; its arguments bind by place -/
structure At (K : PySem.W.Frag) (mg : Str → Option Value) (x qual : Str) (st : Stmt) (ps : List Str) (f : Addr) (fd : FuncData) : Prop where
  fn : Fun K x qual st f fd
  bi : Binds K fd ps []
theorem At.gf {P : Program} {w : World} {K : PySem.W.Frag} {mg : Str → Option Value} {base : Heap} {k : Nat} {x qual : Str} {st : Stmt} {ps : List Str} {f : Addr} {fd : FuncData} {sp : Sp} (F : At K mg x qual st ps f fd) (hm : mg x = some (.ref f))
    (h : FnOk P w K mg base CX0 k f fd ps sp) : GF P w K mg base k x ps sp := ⟨f, fd, hm, F.fn.kp, F.bi, h⟩

theorem le_line {n : Nat} (h : n ≤ 100000) : n ≤ sizeLine := Nat.le_trans h (by decide)
theorem lt_line {n : Nat} (h : n < 100000) : n < sizeLine := Nat.lt_of_lt_of_le h (by decide)
end Sr
/-! What the top has bound: constants, free names, the classes. -/
namespace Sr
open PySem PySem.Spec PyProof.Rows L2

structure GI (mg : Str → Option Value) (x : Str) (i : Int) : Prop where
  ex : ∃ t, mg x = some (.int i t)
structure GS (mg : Str → Option Value) (x : Str) (z : Str) : Prop where
  ex : ∃ t, mg x = some (.str z t)
theorem pe_gi {X : Cx} {x : Str} {i : Int} {pos : Pos} (h : GI X.mg x i) (hg : Gl X x) (hd : (x == ("__debug__" : Str)) = false := by decide) : PE X (.Name x pos) (tC (.int i)) := by
  obtain ⟨t, e⟩ := h.ex
  exact pe_glob hg e ⟨t, rfl⟩ hd
theorem pe_gs {X : Cx} {x : Str} {i : Str} {pos : Pos} (h : GS X.mg x i) (hg : Gl X x) (hd : (x == ("__debug__" : Str)) = false := by decide) : PE X (.Name x pos) (tC (.str i)) := by
  obtain ⟨t, e⟩ := h.ex
  exact pe_glob hg e ⟨t, rfl⟩ hd
theorem pe_fldK {X : Cx} {K : PySem.W.Frag} {e : Expr} {f : Str} {pos : Pos} {ta : TE} (he : PE X e ta) (hb : attributeBase e f X.env (eval e X.env) = eval e X.env) (hK : X.K = K := by rfl) : PE X (.Attribute e f pos) (tFld K ta f) := by
  subst hK
  exact pe_fld he hb
def opL : List Str := ["add", "sub", "mul", "div", "mod", "less", "same"]
/-- the classes -/
def cR (K : PySem.W.Frag) : Addr := He.ga K "Ring"
def cD (K : PySem.W.Frag) : Addr := He.ga K "RowReader"
def cM (K : PySem.W.Frag) : Addr := He.ga K "Machine"
def cC (K : PySem.W.Frag) : Addr := He.ga K "Recorder"
/-- OPERATORS -/
def aO (K : PySem.W.Frag) : Addr := He.ga K "OPERATORS"
structure Txt (K : PySem.W.Frag) (mg : Str → Option Value) : Prop where
  f_isinstance : mg "isinstance" = none
  f_int : mg "int" = none
  f_bool : mg "bool" = none
  f_str : mg "str" = none
  f_tuple : mg "tuple" = none
  f_list : mg "list" = none
  f_len : mg "len" = none
  f_all : mg "all" = none
  f_range : mg "range" = none
  f_enumerate : mg "enumerate" = none
  f_repr : mg "repr" = none
  f_sorted : mg "sorted" = none
  f_max : mg "max" = none
  f_super : mg "super" = none
  c_GREATEST_WORD : GI mg "GREATEST_WORD" 999999
  c_SIZE_OF_WORDS : GI mg "SIZE_OF_WORDS" 1000000
  c_RECIPE_REGISTERS : GI mg "RECIPE_REGISTERS" 24
  c_RECIPE_PARTS : GI mg "RECIPE_PARTS" 2
  c_INVALID : GI mg "INVALID" 999999
  c_MOST_FAULTS : GI mg "MOST_FAULTS" 3
  c_MOST_COPIES : GI mg "MOST_COPIES" 16
  c_STORES_rings : GI mg "STORES_rings" 4
  c_CHOOSE_PARTS : GI mg "CHOOSE_PARTS" 5
  c_STORES_faults : GI mg "STORES_faults" 4
  c_PARTS : GI mg "PARTS" 3
  c_ROW_PARTS : GI mg "ROW_PARTS" 2
  c_STORES_reading : GI mg "STORES_reading" 4
  c_SET : GS mg "SET" "set"
  c_LOAD : GS mg "LOAD" "load"
  c_CHOOSE : GS mg "CHOOSE" "choose"
  c_WORD : GS mg "WORD" "word"
  c_REGISTER : GS mg "REGISTER" "register"
  c_ROW : GS mg "ROW" "row"
  g_OPERATORS : mg "OPERATORS" = some (.ref (aO K))
  t_OPERATORS : ∀ H : Hp, SqT K H (aO K) (opL.map V.str)
  g_Ring : mg "Ring" = some (.ref (cR K))
  g_RowReader : mg "RowReader" = some (.ref (cD K))
  g_Machine : mg "Machine" = some (.ref (cM K))
  g_Recorder : mg "Recorder" = some (.ref (cC K))
end Sr
/-! The head: what the text has bound, as questions to a part of the heap. -/
namespace Sr
open PySem PySem.Spec PyProof.Rows L2
/-- what an object of the text names -/
def refsS (o : Obj) : List Addr := match o.data with
  | .dict es _ => es.toList.flatMap fun e => He.refV e.val
  | .func fd => He.refV fd.code ++ fd.closure.map (·.2)
  | .cls cd => [cd.ns]
  | .fields vs => (match o.cls with
    | .type n => (match (n == "property") || (n == "classmethod") with
      | true => vs.toList.flatMap He.refV
      | false => [])
    | _ => [])
  | _ => []
def asF (g : Addr → Option Obj) : Nat → List Addr → List Addr
  | 0, _ => []
  | n + 1, fr => fr ++ asF g n (fr.flatMap fun a => match g a with
    | some o => refsS o
    | none => [])
def asS (g : Addr → Option Obj) : List Addr := mainGlobals :: cStatics :: asF g 5 (match g mainGlobals with
  | some o => refsS o
  | none => [])
abbrev Qn := PySem.W.Frag → Bool
abbrev Pl := PySem.W.Frag → Addr
section
variable {K : PySem.W.Frag} {h : Heap} {mg : Str → Option Value} {C D : Pl} {f m : Str}
def gloB (x : Str) : Qn := fun K => (He.Fa.glo x).ok K
def freeB (x : Str) : Qn := fun K => (He.Fa.free x).ok K
def intB (x : Str) (i : Int) : Qn := fun K => (He.Fa.int x i).ok K
def strB (x z : Str) : Qn := fun K => (He.Fa.str x z).ok K
def clsB (x : Str) : Qn := fun K => (He.Fa.cls x).ok K
def noatB (x f : Str) : Qn := fun K => (He.Fa.noat x f).ok K
def mkrB (x : Str) : Qn := fun K => (He.Fa.mkr x).ok K
def sameB (x y : Str) : Qn := fun K => decide (He.ga K x = He.ga K y)
def tupQ (x : Str) (vs : List He.Dv) : Qn := fun K => He.tupB K x vs
theorem sameB_ok {x y : Str} (c : sameB x y K = true) : He.ga K x = He.ga K y := of_decide_eq_true c
/-- C's m is D's m, a def -/
def methB (C D : Pl) (m : Str) : Qn := fun K => He.eqO (PySem.W.findIn K (.ref (C K)) m) (some (some (.ref (He.ma K (D K) m)))) && (PySem.W.isFn K (.ref (He.ma K (D K) m)) && PySem.W.keepIn K (.ref (He.ma K (D K) m)))
theorem methB_ok (c : methB C D m K = true) : Meth K (C K) m (He.ma K (D K) m) := by
  obtain ⟨c1, c⟩ := He.ba c
  obtain ⟨c2, c3⟩ := He.ba c
  exact ⟨He.eqO_ok c1, c2, c3⟩
/-- the def that a record of kind T holds -/
def rcP (C : Pl) (T : String) (m : Str) : Pl := fun K => match PySem.W.recIn K (He.ma K (C K) m) T with
  | some (.ref f :: _) => f
  | _ => 0
def propB (C D : Pl) (f : Str) : Qn := fun K => He.eqO (PySem.W.findIn K (.ref (C K)) f) (some (some (.ref (He.ma K (D K) f)))) && (He.eqO (PySem.W.specialIn K (.ref (He.ma K (D K) f)) "__get__") (some (some (.builtin "property.__get__"))) &&
  (decide (PySem.W.takesIn K (.ref (He.ma K (D K) f)) = some true) && (match PySem.W.recIn K (He.ma K (D K) f) "property" with
    | some (.ref _ :: _) => true
    | _ => false)))
theorem propB_ok (c : propB C D f K = true) : PropOf K (C K) f (He.ma K (D K) f) (rcP D "property" f K) := by
  obtain ⟨c1, c⟩ := He.ba c
  obtain ⟨c2, c⟩ := He.ba c
  obtain ⟨c3, c4⟩ := He.ba c
  refine ⟨He.eqO_ok c1, He.eqO_ok c2, of_decide_eq_true c3, ?_⟩
  unfold rcP
  split at c4
  · rename_i a r e
    exact ⟨r, by rw [e]⟩
  · cases c4
def conB (C : Pl) (f : Str) (v : V) : Qn := fun K => (match PySem.W.findIn K (.ref (C K)) f with
  | some (some u) => He.relB v u && He.eqO (PySem.W.specialIn K u "__get__") (some none)
  | _ => false) && !PySem.W.copiedNames.contains f
theorem conB_ok {v : V} (c : conB C f v K = true) : ∃ u, Con K (C K) f v u := by
  obtain ⟨c1, c2⟩ := He.ba c
  split at c1
  · rename_i u e
    obtain ⟨k1, k2⟩ := He.ba c1
    refine ⟨u, e, He.relB_ok k1, He.eqO_ok k2, ?_⟩
    cases z : PySem.W.copiedNames.contains f with
    | false => rfl
    | true =>
      rw [z] at c2
      cases c2
  · cases c1
/-- C.m is a classmethod -/
def cmB (C : Pl) (m : Str) : Qn := fun K => (match PySem.W.findCls K (.ref (C K)) (.type "type") m with
    | some (.get (.builtin g) (.ref p) .none (.ref D)) => decide (g = "classmethod.__get__") && (decide (p = He.ma K (C K) m) && decide (D = C K))
    | _ => false) && ((match PySem.W.recIn K (He.ma K (C K) m) "classmethod" with
    | some (.ref _ :: _) => true
    | _ => false) && (PySem.W.fnIn K (rcP C "classmethod" m K) && (PySem.W.readsIn K (C K) (.type "type") && He.eqO (PySem.W.specialIn K (.ref (C K)) "__getattribute__") (some (some (.builtin "type.__getattribute__"))))))
theorem cmB_ok (c : cmB C m K = true) : ClX.CRead K (C K) (.type "type") ∧ ClX.CMet K (C K) (.type "type") m (He.ma K (C K) m) (rcP C "classmethod" m K) := by
  obtain ⟨c1, c⟩ := He.ba c
  obtain ⟨c2, c⟩ := He.ba c
  obtain ⟨c3, c⟩ := He.ba c
  obtain ⟨c4, c5⟩ := He.ba c
  refine ⟨⟨c4, He.eqO_ok c5⟩, ?_, ?_, c3⟩
  · split at c1
    · rename_i g p D e
      obtain ⟨k1, k⟩ := He.ba c1
      obtain ⟨k2, k3⟩ := He.ba k
      rw [e, of_decide_eq_true k1, of_decide_eq_true k2, of_decide_eq_true k3]
    · cases c1
  · unfold rcP
    split at c2
    · rename_i a r e
      exact ⟨r, by rw [e]⟩
    · cases c2
end
/-! ### defs -/
abbrev FV : Type := Option (Str × Str × Arguments × FuncBody × Scope × Addr × List Str × Addr)
def fvA (K : PySem.W.Frag) (a : Addr) : FV := match K.lookup a with
  | some ⟨_, _, .func fd, _⟩ => some (fd.name, fd.qualname, fd.params, fd.body, fd.scope, fd.globals, fd.closure.map (·.1), fd.builtins)
  | _ => none
structure FD where
  at_ : Pl
  name : Str
  qual : Str
  st : Stmt
  fr : List Str := []
def FD.val (d : FD) : FV := some (d.name, d.qual, defArgs d.st, .stmts (defBody d.st), defScope d.st, mainGlobals, d.fr, builtinsNs)
def noneV : Value → Bool
  | .none => true
  | _ => false
def FD.ok (K : PySem.W.Frag) (d : FD) : Bool := PySem.W.keepIn K (.ref (d.at_ K)) && (match K.lookup (d.at_ K) with
  | some ⟨_, _, .func fd, _⟩ => PySem.W.codeIn K fd.code d.qual && noneV fd.defaults
  | _ => false)
theorem noneV_ok {v : Value} (h : noneV v = true) : v = .none := by cases v <;> first | rfl | cases h
theorem FD.any {K : PySem.W.Frag} {d : FD} (e : fvA K (d.at_ K) = d.val) (c : d.ok K = true) : ∃ (cl : List (Str × Addr)) (fd : FuncData) (oc : Value) (od : Option Addr) (kV doc pm : Value) (an : Option Addr) (cdv ct : Value) (osl : Array (Option Value)),
    cl.map (·.1) = d.fr ∧ fd = PySem.W.fnX d.name d.qual (defArgs d.st) (defBody d.st) (defScope d.st) cl .none kV doc pm an cdv ct ∧ K.lookup (d.at_ K) = some ⟨oc, od, .func fd, osl⟩ ∧ PySem.W.codeIn K cdv d.qual = true ∧ PySem.W.keepIn K (.ref (d.at_ K)) = true := by
  obtain ⟨kp, c2⟩ := He.ba c
  unfold fvA at e
  cases q : K.lookup (d.at_ K) with
  | none =>
    rw [q] at c2
    cases c2
  | some o =>
    obtain ⟨oc, od, dt, osl⟩ := o
    rw [q] at c2 e
    cases dt with
    | func fd =>
      obtain ⟨n1, n2, n3, n4, n5, n6, n7, n8, n9, n10, n11, n12, n13, n14, n15⟩ := fd
      have e2 : (some (n1, n2, n3, n4, n5, n6, n7.map (·.1), n15) : FV) = some (d.name, d.qual, defArgs d.st, .stmts (defBody d.st), defScope d.st, mainGlobals, d.fr, builtinsNs) := e
      simp only [Option.some.injEq, Prod.mk.injEq] at e2
      obtain ⟨h1, h2, h3, h4, h5, h6, h7, h8⟩ := e2
      subst h1 h2 h3 h4 h5 h6 h8
      have c3 : (PySem.W.codeIn K n13 d.qual && noneV n8) = true := c2
      obtain ⟨k1, k2⟩ := He.ba c3
      have k3 := noneV_ok k2
      subst k3
      exact ⟨n7, _, oc, od, n9, n10, n11, n12, n13, n14, osl, h7, rfl, rfl, k1, kp⟩
    | _ => cases c2
/-- what FD.ok and the data say -/
structure FunX (K : PySem.W.Frag) (d : FD) (fd : FuncData) : Prop where
  ex : ∃ (cl : List (Str × Addr)) (oc : Value) (od : Option Addr) (kV doc pm : Value) (an : Option Addr) (cdv ct : Value) (osl : Array (Option Value)),
    cl.map (·.1) = d.fr ∧ fd = PySem.W.fnX d.name d.qual (defArgs d.st) (defBody d.st) (defScope d.st) cl .none kV doc pm an cdv ct ∧ K.lookup (d.at_ K) = some ⟨oc, od, .func fd, osl⟩ ∧ PySem.W.codeIn K cdv d.qual = true
  kp : PySem.W.keepIn K (.ref (d.at_ K)) = true
theorem FunX.fn {K : PySem.W.Frag} {p : Pl} {x qual : Str} {st : Stmt} {fd : FuncData} (F : FunX K ⟨p, x, qual, st, []⟩ fd) : Fun K x qual st (p K) fd := by
  obtain ⟨cl, oc, od, kV, doc, pm, an, cdv, ct, osl, h, rfl, l, c⟩ := F.ex
  have : cl = [] := List.map_eq_nil_iff.mp h
  subst this
  exact ⟨⟨oc, od, kV, doc, pm, an, cdv, ct, osl, rfl, l, c⟩, F.kp⟩
section
variable {K : PySem.W.Frag} {x qual : Str} {st : Stmt} {f : Addr} {fd : FuncData} {ps : List Str}
theorem fun_bi (F : Fun K x qual st f fd) (h : ∀ (kV doc pm : Value) (an : Option Addr) (cdv ct : Value) (us : List Value), us.length = ps.length → bindArgs (PySem.W.fnOf x qual (defArgs st) (defBody st) (defScope st) .none kV doc pm an cdv ct) ⟨us, []⟩ = pure (ps.zip us)) : Binds K fd ps [] := by
  obtain ⟨oc, od, kV, doc, pm, an, cdv, ct, osl, rfl, lk, hcd⟩ := F.ex
  exact .all (h kV doc pm an cdv ct)
theorem fun_at {mg : Str → Option Value} (F : Fun K x qual st f fd) (h : ∀ (kV doc pm : Value) (an : Option Addr) (cdv ct : Value) (us : List Value), us.length = ps.length → bindArgs (PySem.W.fnOf x qual (defArgs st) (defBody st) (defScope st) .none kV doc pm an cdv ct) ⟨us, []⟩ = pure (ps.zip us)) : At K mg x qual st ps f fd := ⟨F, fun_bi F h⟩
theorem fun_kb {n : Nat} {ks : List Str} (F : Fun K x qual st f fd) (h : ∀ (kV doc pm : Value) (an : Option Addr) (cdv ct : Value) (us ws : List Value), us.length = n → ws.length = ks.length → bindArgs (PySem.W.fnOf x qual (defArgs st) (defBody st) (defScope st) .none kV doc pm an cdv ct) ⟨us, ks.zip ws⟩ = pure (ps.zip (us ++ ws))) :
    KBn K fd ps n ks (fun us ws => us ++ ws) (fun vs zs => vs ++ zs) := by
  obtain ⟨oc, od, kV, doc, pm, an, cdv, ct, osl, rfl, lk, hcd⟩ := F.ex
  exact ⟨fun s us ws _ l1 l2 => .of_eq (h kV doc pm an cdv ct us ws l1 l2), fun r1 r2 => r1.append r2⟩
end
/-! ### a method that asks super() -/
def supB (C D : Pl) (m : Str) (file : Str) : Qn := fun K => (match K.lookup (He.ma K (C K) m) with
  | some ⟨_, _, .func fd, _⟩ => (match fd.code with
    | .ref cda => (match K.lookup cda with
      | some ⟨_, _, .fields vs, _⟩ => (match (vs[2]? : Option Value) with
        | some (Value.str z _) => file == z
        | _ => false)
      | _ => false)
    | _ => false) && (match fd.closure with
    | [q] => (match K.lookup q.2 with
      | some ⟨_, _, .cell (some (.ref a)), _⟩ => decide (a = C K)
      | _ => false)
    | _ => false)
  | _ => false) && (He.eqO (PySem.W.nsIn K cStatics "thirdparty.any") (some none) && ((PySem.W.clsIn K (C K)).isSome && (decide (PySem.W.mroIn K (C K) (.ref (C K)) = some true) && (He.eqO (PySem.W.ks_superIn K (C K) (C K) m) (some (some (.ref (He.ma K (D K) m)))) &&
  (PySem.W.fnIn K (He.ma K (D K) m) && decide (PySem.W.typeIn K (.ref (He.ma K (D K) m)) = some (.type "function")))))))
/-! ### the Hook -/
abbrev AlS : Type := Bool × List FV
def obsS (xs : List Qn) (fn : List FD) (K : PySem.W.Frag) : AlS := ((xs.all fun x => x K) && fn.all fun d => d.ok K, fn.map fun d => fvA K (d.at_ K))
def valS (fn : List FD) : AlS := (true, fn.map FD.val)
def SaysS (xs : List Qn) (fn : List FD) (K : PySem.W.Frag) : Prop := obsS xs fn K = valS fn
def obsSG (xs : List Qn) (fn : List FD) (g : Addr → Option Obj) : AlS := obsS xs fn (He.frG g (asS g))
def hookS (xs : List Qn) (fn : List FD) : PySem.W.Hook where
  α := AlS
  obs := fun s => obsSG xs fn s.heap.get?
  val := fun _ => valS fn
  says := fun _ h => ∃ K : PySem.W.Frag, K.In h ∧ SaysS xs fn K
  of := fun _ _ e => ⟨_, He.frG_in, e⟩
  keeps := fun _ _ _ ⟨K, hK, c⟩ k => ⟨K, PySem.W.Frag.In.keeps hK k, c⟩
theorem obsSG_eq {xs : List Qn} {fn : List FD} {g : Addr → Option Obj} {s : Shared} (h : ∀ a, g a = s.heap.get? a) : obsSG xs fn g = (hookS xs fn).obs s := by
  have e : g = s.heap.get? := funext h
  rw [e] <;> rfl
section
variable {xs : List Qn} {fn : List FD} {K : PySem.W.Frag}
theorem SaysS.fact (c : SaysS xs fn K) (i : Nat) {x : Qn} (h : xs[i]? = some x := by rfl) : x K = true := by
  have c1 := (He.ba (show ((xs.all fun x => x K) && fn.all fun d => d.ok K) = true from congrArg (fun z : AlS => z.1) c)).1
  exact List.all_eq_true.mp c1 x (List.mem_of_getElem? h)
theorem SaysS.def_ (c : SaysS xs fn K) (i : Nat) {d : FD} (h : fn[i]? = some d := by rfl) : ∃ fd, FunX K d fd := by
  have c2 := (He.ba (show ((xs.all fun x => x K) && fn.all fun d => d.ok K) = true from congrArg (fun z : AlS => z.1) c)).2
  have e : fn.map (fun d => fvA K (d.at_ K)) = fn.map FD.val := congrArg (fun z : AlS => z.2) c
  have e2 : (fn.map fun d => fvA K (d.at_ K))[i]? = (fn.map FD.val)[i]? := by rw [e]
  rw [List.getElem?_map, List.getElem?_map, h] at e2
  obtain ⟨cl, fd, oc, od, kV, doc, pm, an, cdv, ct, osl, h1, h2, h3, h4, h5⟩ := FD.any (Option.some.inj e2) (List.all_eq_true.mp c2 d (List.mem_of_getElem? h))
  exact ⟨fd, ⟨cl, oc, od, kV, doc, pm, an, cdv, ct, osl, h1, h2, h3, h4⟩, h5⟩
end
end Sr
/-! The head: the questions, the defs. -/
namespace Sr
open PySem PySem.Spec PyProof.Rows L2
def hxs : List Qn := [freeB "isinstance", freeB "int", freeB "bool", freeB "str", freeB "tuple", freeB "list", freeB "len", freeB "all", freeB "range", freeB "enumerate", freeB "repr", freeB "sorted", freeB "max", freeB "super", intB "GREATEST_WORD" 999999, intB "SIZE_OF_WORDS" 1000000, intB "RECIPE_REGISTERS" 24, intB "RECIPE_PARTS" 2, intB "INVALID" 999999, intB "MOST_FAULTS" 3, intB "MOST_COPIES" 16, intB "STORES_rings" 4, intB "CHOOSE_PARTS" 5, intB "STORES_faults" 4, intB "PARTS" 3, intB "ROW_PARTS" 2, intB "STORES_reading" 4, strB "SET" "set", strB "LOAD" "load", strB "CHOOSE" "choose", strB "WORD" "word", strB "REGISTER" "register", strB "ROW" "row", gloB "is_integer", gloB "is_word", gloB "operator_value", gloB "is_number_below", gloB "is_register", gloB "many_sources", gloB "is_recipe_row", gloB "is_recipe", gloB "is_recipes", gloB "is_number", gloB "store_addresses", gloB "counting_rows", gloB "placed_row", gloB "choosing_rows", gloB "piece_p", gloB "vote_rows", gloB "piece_q", gloB "is_index", gloB "is_fault", gloB "copy_of_address", gloB "affected_by", gloB "store_at", gloB "is_whole", gloB "stores_of", gloB "held", gloB "reading", gloB "_law_deck", gloB "_law_draw", gloB "_law_pick", gloB "_law_word", gloB "_law_recipe", gloB "_law_counting", gloB "_law_stores", gloB "_law_p", gloB "_law_q", gloB "_law_rows", gloB "_law_counter", gloB "_law_fault", gloB "_law_seen", gloB "_law_walked", gloB "_law_beside_right", gloB "law", gloB "Ring", gloB "RowReader", gloB "Machine", gloB "Recorder", gloB "OPERATORS", gloB "reading_reading", sameB "reading_reading" "reading", tupQ "OPERATORS" (opL.map He.Dv.str), clsB "Ring", mkrB "Ring", noatB "Ring" "recipes_given", noatB "Ring" "faults_withstood", noatB "Ring" "copy_count", noatB "Ring" "piece_lengths", noatB "Ring" "row_list", clsB "RowReader", mkrB "RowReader", noatB "RowReader" "values_given", noatB "RowReader" "word_count", noatB "RowReader" "index", clsB "Machine", mkrB "Machine", noatB "Machine" "ring_executed", noatB "Machine" "rows_listed", noatB "Machine" "memory_words", noatB "Machine" "register_words", noatB "Machine" "next_row", noatB "Machine" "rows_done", noatB "Machine" "faults_done", noatB "Machine" "copies_affected", clsB "Recorder", mkrB "Recorder", noatB "Recorder" "ring_executed", noatB "Recorder" "rows_listed", noatB "Recorder" "memory_words", noatB "Recorder" "register_words", noatB "Recorder" "next_row", noatB "Recorder" "rows_done", noatB "Recorder" "faults_done", noatB "Recorder" "copies_affected", noatB "Recorder" "faults_noted", conB cR "REGISTERS" (.int 32), methB cR cR "__len__", methB cR cR "piece_at", methB cR cR "first_memory", propB cR cR "faults", propB cR cR "copies", propB cR cR "size", propB cR cR "rows", propB cR cR "words", methB cD cD "peek", methB cD cD "expect", methB cD cD "read_result", methB cD cD "read_step", methB cD cD "read_recipe", methB cD cD "read_recipes", methB cM cM "execute", methB cM cM "execute_next", methB cM cM "run", methB cM cM "walk", methB cM cM "changes_anything", methB cM cM "note", methB cM cM "suffer", methB cM cM "strike", methB cM cM "play", propB cM cM "memory", propB cM cM "registers", propB cM cM "executed", propB cM cM "fault_count", propB cM cM "affected", propB cM cM "reading", propB cM cM "row", methB cC cC "note", propB cC cC "story", methB cC cM "execute", methB cC cM "execute_next", methB cC cM "run", methB cC cM "walk", methB cC cM "changes_anything", methB cC cM "suffer", methB cC cM "strike", methB cC cM "play", propB cC cM "memory", propB cC cM "registers", propB cC cM "executed", propB cC cM "fault_count", propB cC cM "affected", propB cC cM "reading", propB cC cM "row", cmB cR "read", supB cC cM "__init__" "/claim/cut.py", supB cC cM "note" "/claim/cut.py"]
def d_is_integer : FD := ⟨fun K => He.ga K "is_integer", "is_integer", "is_integer", top 11, []⟩
def d_is_word : FD := ⟨fun K => He.ga K "is_word", "is_word", "is_word", top 12, []⟩
def d_operator_value : FD := ⟨fun K => He.ga K "operator_value", "operator_value", "operator_value", top 15, []⟩
def d_is_number_below : FD := ⟨fun K => He.ga K "is_number_below", "is_number_below", "is_number_below", top 22, []⟩
def d_is_register : FD := ⟨fun K => He.ga K "is_register", "is_register", "is_register", top 23, []⟩
def d_many_sources : FD := ⟨fun K => He.ga K "many_sources", "many_sources", "many_sources", top 24, []⟩
def d_is_recipe_row : FD := ⟨fun K => He.ga K "is_recipe_row", "is_recipe_row", "is_recipe_row", top 25, []⟩
def d_is_recipe : FD := ⟨fun K => He.ga K "is_recipe", "is_recipe", "is_recipe", top 26, []⟩
def d_is_recipes : FD := ⟨fun K => He.ga K "is_recipes", "is_recipes", "is_recipes", top 27, []⟩
def d_is_number : FD := ⟨fun K => He.ga K "is_number", "is_number", "is_number", top 42, []⟩
def d_store_addresses : FD := ⟨fun K => He.ga K "store_addresses", "store_addresses", "store_addresses", top 44, []⟩
def d_counting_rows : FD := ⟨fun K => He.ga K "counting_rows", "counting_rows", "counting_rows", top 45, []⟩
def d_placed_row : FD := ⟨fun K => He.ga K "placed_row", "placed_row", "placed_row", top 46, []⟩
def d_choosing_rows : FD := ⟨fun K => He.ga K "choosing_rows", "choosing_rows", "choosing_rows", top 47, []⟩
def d_piece_p : FD := ⟨fun K => He.ga K "piece_p", "piece_p", "piece_p", top 48, []⟩
def d_vote_rows : FD := ⟨fun K => He.ga K "vote_rows", "vote_rows", "vote_rows", top 49, []⟩
def d_piece_q : FD := ⟨fun K => He.ga K "piece_q", "piece_q", "piece_q", top 50, []⟩
def d_is_index : FD := ⟨fun K => He.ga K "is_index", "is_index", "is_index", top 60, []⟩
def d_is_fault : FD := ⟨fun K => He.ga K "is_fault", "is_fault", "is_fault", top 61, []⟩
def d_copy_of_address : FD := ⟨fun K => He.ga K "copy_of_address", "copy_of_address", "copy_of_address", top 62, []⟩
def d_affected_by : FD := ⟨fun K => He.ga K "affected_by", "affected_by", "affected_by", top 63, []⟩
def d_store_at : FD := ⟨fun K => He.ga K "store_at", "store_at", "store_at", top 66, []⟩
def d_is_whole : FD := ⟨fun K => He.ga K "is_whole", "is_whole", "is_whole", top 67, []⟩
def d_stores_of : FD := ⟨fun K => He.ga K "stores_of", "stores_of", "stores_of", top 68, []⟩
def d_held : FD := ⟨fun K => He.ga K "held", "held", "held", top 69, []⟩
def d_reading : FD := ⟨fun K => He.ga K "reading", "reading", "reading", top 70, []⟩
def d__law_deck : FD := ⟨fun K => He.ga K "_law_deck", "_law_deck", "_law_deck", top 76, []⟩
def d__law_draw : FD := ⟨fun K => He.ga K "_law_draw", "_law_draw", "_law_draw", top 77, []⟩
def d__law_pick : FD := ⟨fun K => He.ga K "_law_pick", "_law_pick", "_law_pick", top 78, []⟩
def d__law_word : FD := ⟨fun K => He.ga K "_law_word", "_law_word", "_law_word", top 79, []⟩
def d__law_recipe : FD := ⟨fun K => He.ga K "_law_recipe", "_law_recipe", "_law_recipe", top 80, []⟩
def d__law_counting : FD := ⟨fun K => He.ga K "_law_counting", "_law_counting", "_law_counting", top 82, []⟩
def d__law_stores : FD := ⟨fun K => He.ga K "_law_stores", "_law_stores", "_law_stores", top 83, []⟩
def d__law_p : FD := ⟨fun K => He.ga K "_law_p", "_law_p", "_law_p", top 84, []⟩
def d__law_q : FD := ⟨fun K => He.ga K "_law_q", "_law_q", "_law_q", top 85, []⟩
def d__law_rows : FD := ⟨fun K => He.ga K "_law_rows", "_law_rows", "_law_rows", top 86, []⟩
def d__law_counter : FD := ⟨fun K => He.ga K "_law_counter", "_law_counter", "_law_counter", top 91, []⟩
def d__law_fault : FD := ⟨fun K => He.ga K "_law_fault", "_law_fault", "_law_fault", top 92, []⟩
def d__law_seen : FD := ⟨fun K => He.ga K "_law_seen", "_law_seen", "_law_seen", top 95, []⟩
def d__law_walked : FD := ⟨fun K => He.ga K "_law_walked", "_law_walked", "_law_walked", top 96, []⟩
def d__law_beside_right : FD := ⟨fun K => He.ga K "_law_beside_right", "_law_beside_right", "_law_beside_right", top 97, []⟩
def d_law : FD := ⟨fun K => He.ga K "law", "law", "law", top 98, []⟩
def d_Ring_init : FD := ⟨fun K => He.ma K (cR K) "__init__", "__init__", "Ring.__init__", inClass (top 51) 1, []⟩
def d_Ring_len : FD := ⟨fun K => He.ma K (cR K) "__len__", "__len__", "Ring.__len__", inClass (top 51) 9, []⟩
def d_Ring_piece_at : FD := ⟨fun K => He.ma K (cR K) "piece_at", "piece_at", "Ring.piece_at", inClass (top 51) 15, []⟩
def d_Ring_first_memory : FD := ⟨fun K => He.ma K (cR K) "first_memory", "first_memory", "Ring.first_memory", inClass (top 51) 17, []⟩
def d_Ring_faults : FD := ⟨rcP cR "property" "faults", "faults", "Ring.faults", inClass (top 51) 3, []⟩
def d_Ring_copies : FD := ⟨rcP cR "property" "copies", "copies", "Ring.copies", inClass (top 51) 4, []⟩
def d_Ring_size : FD := ⟨rcP cR "property" "size", "size", "Ring.size", inClass (top 51) 5, []⟩
def d_Ring_rows : FD := ⟨rcP cR "property" "rows", "rows", "Ring.rows", inClass (top 51) 6, []⟩
def d_Ring_words : FD := ⟨rcP cR "property" "words", "words", "Ring.words", inClass (top 51) 8, []⟩
def d_RowReader_init : FD := ⟨fun K => He.ma K (cD K) "__init__", "__init__", "RowReader.__init__", inClass (top 52) 0, []⟩
def d_RowReader_peek : FD := ⟨fun K => He.ma K (cD K) "peek", "peek", "RowReader.peek", inClass (top 52) 1, []⟩
def d_RowReader_expect : FD := ⟨fun K => He.ma K (cD K) "expect", "expect", "RowReader.expect", inClass (top 52) 2, []⟩
def d_RowReader_read_result : FD := ⟨fun K => He.ma K (cD K) "read_result", "read_result", "RowReader.read_result", inClass (top 52) 3, []⟩
def d_RowReader_read_step : FD := ⟨fun K => He.ma K (cD K) "read_step", "read_step", "RowReader.read_step", inClass (top 52) 5, []⟩
def d_RowReader_read_recipe : FD := ⟨fun K => He.ma K (cD K) "read_recipe", "read_recipe", "RowReader.read_recipe", inClass (top 52) 4, []⟩
def d_RowReader_read_recipes : FD := ⟨fun K => He.ma K (cD K) "read_recipes", "read_recipes", "RowReader.read_recipes", inClass (top 52) 6, []⟩
def d_Machine_init : FD := ⟨fun K => He.ma K (cM K) "__init__", "__init__", "Machine.__init__", inClass (top 73) 0, []⟩
def d_Machine_execute : FD := ⟨fun K => He.ma K (cM K) "execute", "execute", "Machine.execute", inClass (top 73) 11, []⟩
def d_Machine_execute_next : FD := ⟨fun K => He.ma K (cM K) "execute_next", "execute_next", "Machine.execute_next", inClass (top 73) 10, []⟩
def d_Machine_run : FD := ⟨fun K => He.ma K (cM K) "run", "run", "Machine.run", inClass (top 73) 12, []⟩
def d_Machine_walk : FD := ⟨fun K => He.ma K (cM K) "walk", "walk", "Machine.walk", inClass (top 73) 13, []⟩
def d_Machine_changes_anything : FD := ⟨fun K => He.ma K (cM K) "changes_anything", "changes_anything", "Machine.changes_anything", inClass (top 73) 14, []⟩
def d_Machine_note : FD := ⟨fun K => He.ma K (cM K) "note", "note", "Machine.note", inClass (top 73) 15, []⟩
def d_Machine_suffer : FD := ⟨fun K => He.ma K (cM K) "suffer", "suffer", "Machine.suffer", inClass (top 73) 16, []⟩
def d_Machine_strike : FD := ⟨fun K => He.ma K (cM K) "strike", "strike", "Machine.strike", inClass (top 73) 17, []⟩
def d_Machine_play : FD := ⟨fun K => He.ma K (cM K) "play", "play", "Machine.play", inClass (top 73) 18, []⟩
def d_Machine_memory : FD := ⟨rcP cM "property" "memory", "memory", "Machine.memory", inClass (top 73) 1, []⟩
def d_Machine_registers : FD := ⟨rcP cM "property" "registers", "registers", "Machine.registers", inClass (top 73) 2, []⟩
def d_Machine_executed : FD := ⟨rcP cM "property" "executed", "executed", "Machine.executed", inClass (top 73) 3, []⟩
def d_Machine_fault_count : FD := ⟨rcP cM "property" "fault_count", "fault_count", "Machine.fault_count", inClass (top 73) 4, []⟩
def d_Machine_affected : FD := ⟨rcP cM "property" "affected", "affected", "Machine.affected", inClass (top 73) 5, []⟩
def d_Machine_reading : FD := ⟨rcP cM "property" "reading", "reading", "Machine.reading", inClass (top 73) 6, []⟩
def d_Machine_row : FD := ⟨rcP cM "property" "row", "row", "Machine.row", inClass (top 73) 7, []⟩
def d_Recorder_init : FD := ⟨fun K => He.ma K (cC K) "__init__", "__init__", "Recorder.__init__", inClass (top 74) 0, ["__class__"]⟩
def d_Recorder_note : FD := ⟨fun K => He.ma K (cC K) "note", "note", "Recorder.note", inClass (top 74) 2, ["__class__"]⟩
def d_Recorder_story : FD := ⟨rcP cC "property" "story", "story", "Recorder.story", inClass (top 74) 1, []⟩
def d_Ring_read : FD := ⟨rcP cR "classmethod" "read", "read", "Ring.read", inClass (top 51) 18, []⟩
def hfn : List FD := [d_is_integer, d_is_word, d_operator_value, d_is_number_below, d_is_register, d_many_sources, d_is_recipe_row, d_is_recipe, d_is_recipes, d_is_number, d_store_addresses, d_counting_rows, d_placed_row, d_choosing_rows, d_piece_p, d_vote_rows, d_piece_q, d_is_index, d_is_fault, d_copy_of_address, d_affected_by, d_store_at, d_is_whole, d_stores_of, d_held, d_reading, d__law_deck, d__law_draw, d__law_pick, d__law_word, d__law_recipe, d__law_counting, d__law_stores, d__law_p, d__law_q, d__law_rows, d__law_counter, d__law_fault, d__law_seen, d__law_walked, d__law_beside_right, d_law, d_Ring_init, d_Ring_len, d_Ring_piece_at, d_Ring_first_memory, d_Ring_faults, d_Ring_copies, d_Ring_size, d_Ring_rows, d_Ring_words, d_RowReader_init, d_RowReader_peek, d_RowReader_expect, d_RowReader_read_result, d_RowReader_read_step, d_RowReader_read_recipe, d_RowReader_read_recipes, d_Machine_init, d_Machine_execute, d_Machine_execute_next, d_Machine_run, d_Machine_walk, d_Machine_changes_anything, d_Machine_note, d_Machine_suffer, d_Machine_strike, d_Machine_play, d_Machine_memory, d_Machine_registers, d_Machine_executed, d_Machine_fault_count, d_Machine_affected, d_Machine_reading, d_Machine_row, d_Recorder_init, d_Recorder_note, d_Recorder_story, d_Ring_read]
end Sr
/-! The head: the run. -/
namespace Sr
open PySem PySem.Spec PyProof.Rows L2
def loose0 : List Str := ["_wall", "StruckError", "BadRecipes", "BadNumber", "Unlike", "BadFault", "BadRow", "GREATEST_WORD", "OPERATORS", "is_integer", "is_word", "SIZE_OF_WORDS", "operator_value", "RECIPE_REGISTERS", "RECIPE_PARTS", "SET", "LOAD", "CHOOSE", "is_number_below", "is_register", "many_sources", "is_recipe_row", "is_recipe", "is_recipes", "computed_word", "next_words", "moved_row", "part_recipe", "part_recipes", "both_done"]
def loose1 : List Str := ["sum_of", "INVALID", "MOST_FAULTS", "MOST_COPIES", "STORES_rings", "CHOOSE_PARTS", "LEAST_COPIES", "is_number", "enough_copies", "store_addresses", "counting_rows", "placed_row", "choosing_rows", "piece_p", "vote_rows", "piece_q", "Ring", "RowReader", "WORD", "REGISTER", "ROW", "STORES_faults", "PARTS", "ROW_PARTS", "is_index", "is_fault", "copy_of_address", "affected_by", "STORES_reading", "store_at"]
def loose2 : List Str := ["is_whole", "stores_of", "held", "reading", "reading_reading", "Machine", "Recorder", "_law_deck", "_law_draw", "_law_pick", "_law_word", "_law_recipe", "_law_recipes", "_law_counting", "_law_stores", "_law_p", "_law_q", "_law_rows", "_law_value", "_law_worked", "_law_next", "_law_plain", "_law_counter", "_law_fault", "_law_held", "_law_read_right", "_law_seen", "_law_walked", "_law_beside_right"]
def looseN : List Str := loose0 ++ loose1 ++ loose2
abbrev RR : PySem.W.OpenRow := PySem.W.OpenLaw.row PySem.Challenge.rw_struckring_k57_whole_rows_read_back_and
abbrev qv : Program := PySem.W.view RR.prog [98]
abbrev headHk : PySem.W.Hook := hookS hxs hfn
def headOb (s : PySem.W.SharedT) : AlS := obsSG hxs hfn (HandSHeadRun.getT s)
theorem headOb_eq (s : PySem.W.SharedT) : headOb s = headHk.obs s.abs := obsSG_eq (HandSHeadRun.getT_eq s)
theorem headF (w : World) : HandSHeadRun.RunEq RR qv headHk headOb 8000 looseN (w.withFollow "special-get-raises" false) := by
  intro os
  kernel_rfl
theorem headT (w : World) : HandSHeadRun.RunEq RR qv headHk headOb 8000 looseN (w.withFollow "special-get-raises" true) := by
  intro os
  kernel_rfl
theorem headRun (w : World) : HandSHeadRun.RunEq RR qv headHk headOb 8000 looseN w := PySem.W.byRow2 "special-get-raises" (P := HandSHeadRun.RunEq RR qv headHk headOb 8000 looseN) headF headT w
end Sr
/-! Data that is made on the way: what a reading gives, all that stood being kept. -/
namespace Sr
open PySem PySem.Spec PyProof.Rows L2

def EvD (te : TE) (σ : L2.St) (H : Hp) (d : PyData) : Prop := ∀ H1, Kp [] H H1 → ∀ Q : VK, (∀ v H2, Kp [] H1 H2 → TD H2 v d → Q v H2) → te σ H1 Q
def EvDs (ta : TA) (σ : L2.St) (H : Hp) (ds : List PyData) : Prop := ∀ H1, Kp [] H H1 → ∀ Q : List V → Hp → Prop, (∀ vs H2, Kp [] H1 H2 → TDs H2 vs ds → Q vs H2) → ta σ H1 Q
/-- a new list of data -/
def EvL (te : TE) (σ : L2.St) (H : Hp) (ds : List PyData) : Prop := ∀ H1, Kp [] H H1 → ∀ Q : VK, (∀ l vs H2, H1 l = none → Kp [] H1 H2 → H2 l = some (.lst vs) → TDs H2 vs ds → Q (.ref l) H2) → te σ H1 Q
section
variable {K : PySem.W.Frag} {σ : L2.St} {H H' : Hp} {ta tb te : TE} {t : TA} {i : Nat} {v : V} {d : PyData} {ds es : List PyData} {x y : Int}
theorem EvD.mono (k : Kp [] H H') (h : EvD te σ H d) : EvD te σ H' d := fun H1 k1 => h H1 (k.trans k1)
theorem EvDs.mono (k : Kp [] H H') (h : EvDs t σ H ds) : EvDs t σ H' ds := fun H1 k1 => h H1 (k.trans k1)
theorem EvL.mono (k : Kp [] H H') (h : EvL te σ H ds) : EvL te σ H' ds := fun H1 k1 => h H1 (k.trans k1)
theorem ed_var (e : σ[i]? = some (some v)) (h : TD H v d) : EvD (tVar i) σ H d := fun H1 k _ q => ⟨v, e, q v H1 (Kp.refl _ _) (h.kp k)⟩
theorem ed_i : EvD (tC (.int x)) σ H (.int x) := fun H1 _ _ q => q _ H1 (Kp.refl _ _) (.int x)
theorem ed_s {z : Str} : EvD (tC (.str z)) σ H (.str z) := fun H1 _ _ q => q _ H1 (Kp.refl _ _) (.str z)
theorem ed_n : EvD (tC .non) σ H .none := fun H1 _ _ q => q _ H1 (Kp.refl _ _) .non
theorem TD.toI {H : Hp} {v : V} (h : TD H v (.int x)) : v = .int x := by cases h; rfl
theorem ed_op {r : R2} (ha : EvD ta σ H (.int x)) (hb : EvD tb σ H (.int y)) {z : Int} (hr : ∀ (H1 : Hp) (Q : VK), Q (.int z) H1 → r (.int x) (.int y) H1 Q) : EvD (tOp r ta tb) σ H (.int z) := fun H1 k Q q =>
  ha H1 k _ fun v H2 k2 t2 => hb H2 (k.trans k2) _ fun u H3 k3 t3 => by
    cases t2
    cases t3
    exact hr H3 Q (q _ H3 (k2.trans k3) (.int z))
theorem ed_add (ha : EvD ta σ H (.int x)) (hb : EvD tb σ H (.int y)) : EvD (tOp (rI0 fun i j => .int (i + j)) ta tb) σ H (.int (x + y)) := ed_op ha hb fun _ _ q => ⟨_, _, rfl, rfl, q⟩
theorem ed_sub (ha : EvD ta σ H (.int x)) (hb : EvD tb σ H (.int y)) : EvD (tOp (rI0 fun i j => .int (i - j)) ta tb) σ H (.int (x - y)) := ed_op ha hb fun _ _ q => ⟨_, _, rfl, rfl, q⟩
theorem ed_mul (ha : EvD ta σ H (.int x)) (hb : EvD tb σ H (.int y)) (hc : CMul x y) : EvD (tOp (rI CMul fun i j => .int (i * j)) ta tb) σ H (.int (x * y)) := ed_op ha hb fun _ _ q => ⟨_, _, rfl, rfl, hc, q⟩
theorem ed_tup (h : EvDs t σ H ds) (hl0 : Nat.ble ds.length 100000 = true := by rfl) : EvD (tTup t) σ H (.tuple ds) := fun H1 k Q q =>
  h H1 k _ fun vs H2 k2 t2 => ⟨by rw [t2.len]; exact le_line (Nat.le_of_ble_eq_true hl0), fun p hp => q _ _ (k2.newT hp) (.tup upd_same (t2.kp (Kp.new (S := []) hp)))⟩
theorem eds_nil : EvDs tNil σ H [] := fun H1 _ _ q => q [] H1 (Kp.refl _ _) .nil
theorem eds_cons (ha : EvD ta σ H d) (hr : EvDs t σ H ds) : EvDs (tCons ta t) σ H (d :: ds) := fun H1 k Q q =>
  ha H1 k _ fun v H2 k2 t2 => hr H2 (k.trans k2) _ fun vs H3 k3 t3 => q _ H3 (k2.trans k3) (.cons (t2.kp k3) t3)
/-- *e, e a list that stands, or a new one -/
theorem eds_starV {l : Addr} {vs : List V} (e : σ[i]? = some (some (.ref l))) (h : H l = some (.lst vs)) (hv : TDs H vs ds) (hr : EvDs t σ H es) : EvDs (StX.tStar K (tVar i) t) σ H (ds ++ es) := fun H1 k Q q =>
  ⟨_, e, l, vs, rfl, .inr (SqL.of (k.get h)), hr H1 k _ fun us H2 k2 t2 => q _ H2 k2 ((hv.kp (k.trans k2)).app t2)⟩
theorem eds_starT {l : Addr} {vs : List V} (e : σ[i]? = some (some (.ref l))) (h : H l = some (.tup vs)) (hv : TDs H vs ds) (hr : EvDs t σ H es) : EvDs (StX.tStar K (tVar i) t) σ H (ds ++ es) := fun H1 k Q q =>
  ⟨_, e, l, vs, rfl, .inl (SqT.of (k.get h)), hr H1 k _ fun us H2 k2 t2 => q _ H2 k2 ((hv.kp (k.trans k2)).app t2)⟩
theorem eds_starL (ha : EvL te σ H ds) (hr : EvDs t σ H es) : EvDs (StX.tStar K te t) σ H (ds ++ es) := fun H1 k Q q =>
  ha H1 k _ fun l vs H2 _ k2 e2 t2 => ⟨l, vs, rfl, .inr (SqL.of e2), hr H2 (k.trans k2) _ fun us H3 k3 t3 => q _ H3 (k2.trans k3) ((t2.kp k3).app t3)⟩
theorem el_lst (h : EvDs t σ H ds) (hl : ds.length ≤ 100000) : EvL (tLst t) σ H ds := fun H1 k Q q =>
  h H1 k _ fun vs H2 k2 t2 => ⟨by rw [t2.len]; exact le_line hl, fun p hp => q p vs _ (k2.free hp) (k2.newT hp) upd_same (t2.kp (Kp.new (S := []) hp))⟩
/-- a promise: a new list of data; data -/
def SpL (sp : Sp) (vs : List V) (H : Hp) (ds : List PyData) : Prop := ∀ H1, Kp [] H H1 → ∀ (Q : VK) (E : XK), (∀ l us H2, H1 l = none → Kp [] H1 H2 → H2 l = some (.lst us) → TDs H2 us ds → Q (.ref l) H2) → sp vs H1 Q E
def SpD (sp : Sp) (vs : List V) (H : Hp) (d : PyData) : Prop := ∀ H1, Kp [] H H1 → ∀ (Q : VK) (E : XK), (∀ v H2, Kp [] H1 H2 → TD H2 v d → Q v H2) → sp vs H1 Q E
theorem el_call {sp : Sp} {E : XK} (h : EvDs t σ H ds) (hs : ∀ vs H1, Kp [] H H1 → TDs H1 vs ds → SpL sp (vs ++ []) H1 es) : EvL (tCall sp [] E t) σ H es := fun H1 k Q q =>
  h H1 k _ fun vs H2 k2 t2 => hs vs H2 (k.trans k2) t2 H2 (Kp.refl _ _) Q E fun l us H3 h3 k3 e3 t3 => q l us H3 (k2.free h3) (k2.trans k3) e3 t3
theorem ed_call {sp : Sp} {E : XK} (h : EvDs t σ H ds) (hs : ∀ vs H1, Kp [] H H1 → TDs H1 vs ds → SpD sp (vs ++ []) H1 d) : EvD (tCall sp [] E t) σ H d := fun H1 k Q q =>
  h H1 k _ fun vs H2 k2 t2 => hs vs H2 (k.trans k2) t2 H2 (Kp.refl _ _) Q E fun v H3 k3 t3 => q v H3 (k2.trans k3) t3
variable {D : Ends}
theorem sd_set (h : EvD te σ H d) (n : ∀ v H1, Kp [] H H1 → TD H1 v d → D.nx (σ.set i (some v)) H1) : tAsg te (gName i) D σ H := h H (Kp.refl _ _) _ fun v H1 k t => n v H1 k t
theorem sl_set (h : EvL te σ H ds) (n : ∀ l vs H1, H l = none → Kp [] H H1 → H1 l = some (.lst vs) → TDs H1 vs ds → D.nx (σ.set i (some (.ref l))) H1) : tAsg te (gName i) D σ H := h H (Kp.refl _ _) _ fun l vs H1 f k e t => n l vs H1 f k e t
theorem sd_ret (h : EvD te σ H d) (n : ∀ v H1, Kp [] H H1 → TD H1 v d → D.rt v H1) : tRet te D σ H := h H (Kp.refl _ _) _ fun v H1 k t => n v H1 k t
theorem sl_ret (h : EvL te σ H ds) (n : ∀ l vs H1, H l = none → Kp [] H H1 → H1 l = some (.lst vs) → TDs H1 vs ds → D.rt (.ref l) H1) : tRet te D σ H := h H (Kp.refl _ _) _ fun l vs H1 f k e t => n l vs H1 f k e t
end

/-! ### rows: a word, numbers -/
abbrev Row := Str × List Int
abbrev ro (w : Str) (ns : List Int) : Row := (w, ns)
def rowD (r : Row) : PyData := .tuple (.str r.1 :: r.2.map PyData.int)
/-- a recipe: its rows, its result -/
abbrev Rec := List Row × Int
def recD (r : Rec) : PyData := .tuple [.tuple (r.1.map rowD), .int r.2]
def recsD (rs : List Rec) : PyData := .tuple (rs.map recD)
def opv (o : Str) (a b : Int) : Int :=
  if o = "add" then (a + b) % 1000000 else if o = "sub" then (a - b) % 1000000 else if o = "mul" then a * b % 1000000 else if o = "less" then (if a < b then 1 else 0)
  else if o = "same" then (if a = b then 1 else 0) else if b = 0 then 0 else if o = "div" then a / b else a % b
def oldA (n c : Int) : Int := 4 * (n + 2) * c
def newA (n c : Int) : Int := 4 * (n + 2) * c + (n + 2)
def lookA (n c : Int) : Int := 4 * (n + 2) * c + 2 * (n + 2)
def bestA (n c : Int) : Int := 4 * (n + 2) * c + 3 * (n + 2)
def countR (old a : Int) : List Row := [ro "load" ([24, old]), ro "load" ([25, old + 1]), ro "set" ([26, 0]), ro "same" ([25, 25, 26]), ro "add" ([24, 24, 25]), ro "store" ([24, a])]
def placeR (old : Int) (r : Row) : Row := if r.1 = "load" then ro "load" [r.2.getD 0 0, old + 1 + r.2.getD 1 0] else r
def chooseR (ix old new res : Int) : List Row := [ro "load" ([24, old + 1 + ix]), ro "load" ([25, old + 1]), ro "choose" ([24, 25, 24, res]), ro "store" ([24, new + 1 + ix])]
def recR (old new : Int) (ix : Int) (r : Rec) : List Row := r.1.map (placeR old) ++ chooseR ix old new r.2
def recsR (old new : Int) : Int → List Rec → List Row
  | _, [] => []
  | ix, r :: rs => recR old new ix r ++ recsR old new (ix + 1) rs
def pieceP (rs : List Rec) (c : Int) : List Row :=
  let n : Int := rs.length
  [ro "set" ([24, 999999]), ro "store" ([24, newA n c + n + 1])] ++ countR (oldA n c) (newA n c) ++ recsR (oldA n c) (newA n c) 0 rs ++ countR (oldA n c) (newA n c + n + 1)
def voteR (news : List Int) (e len look best src : Int) : List Row :=
  [ro "move" ([24, src, look, len]), ro "load" ([25, look]), ro "load" ([26, look + len - 1]), ro "same" ([26, 25, 26]), ro "load" ([27, best]), ro "less" ([27, 27, 25]), ro "set" ([28, 0])] ++
  news.flatMap (fun a => [ro "alike" ([29, look, a, len]), ro "add" ([28, 28, 29])]) ++
  [ro "set" ([29, e]), ro "less" ([28, 29, 28]), ro "mul" ([26, 26, 27]), ro "mul" ([26, 26, 28]), ro "move" ([26, look, best, len])]
def newsA (n : Int) (k : Nat) : List Int := (List.range k).map fun (j : Nat) => newA n j
def pieceQ (n e : Int) (k : Nat) (c : Int) : List Row :=
  [ro "set" ([24, 1]), ro "move" ([24, oldA n c, bestA n c, n + 2])] ++ (newsA n k).flatMap (fun s => voteR (newsA n k) e (n + 2) (lookA n c) (bestA n c) s) ++ [ro "move" ([24, bestA n c, oldA n c, n + 2])]
def ringR (rs : List Rec) (e : Int) (k : Nat) : List Row :=
  (List.range k).flatMap (fun (c : Nat) => pieceP rs c) ++ (List.range k).flatMap (fun (c : Nat) => pieceQ rs.length e k c)
end Sr
/-! More of the readings of data: exact values, tests, items, lengths, comprehensions. -/
namespace Sr
open PySem PySem.Spec PyProof.Rows L2

/-- a known value -/
def EvV (te : TE) (σ : L2.St) (H : Hp) (v : V) : Prop := ∀ H1, Kp [] H H1 → ∀ Q : VK, (∀ H2, Kp [] H1 H2 → Q v H2) → te σ H1 Q
/-- a test -/
def EvT (tt : TT) (σ : L2.St) (H : Hp) (b : Bool) : Prop := ∀ H1, Kp [] H H1 → ∀ Q : Bool → Hp → Prop, (∀ H2, Kp [] H1 H2 → Q b H2) → tt σ H1 Q
section
variable {K : PySem.W.Frag} {σ : L2.St} {H H' : Hp} {ta tb te : TE} {tt tu : TT} {t : TA} {i : Nat} {v u : V} {d : PyData} {ds es : List PyData} {x y : Int} {b c : Bool} {a l p C dx : Addr} {fs : List (Str × V)} {vs : List V} {f : Str} {zs z' : Str}
theorem EvV.mono (k : Kp [] H H') (h : EvV te σ H v) : EvV te σ H' v := fun H1 k1 => h H1 (k.trans k1)
theorem EvT.mono (k : Kp [] H H') (h : EvT tt σ H b) : EvT tt σ H' b := fun H1 k1 => h H1 (k.trans k1)
theorem ev_var (e : σ[i]? = some (some v)) : EvV (tVar i) σ H v := fun H1 _ _ q => ⟨v, e, q H1 (Kp.refl _ _)⟩
theorem ev_c : EvV (tC v) σ H v := fun H1 _ _ q => q H1 (Kp.refl _ _)
theorem ev_fld (ha : EvV ta σ H (.ref p)) (hp : H p = some (.ins C dx fs)) (cl : Cls K C) (na : NoAttr K C f) (hf : fs.lookup f = some v) : EvV (tFld K ta f) σ H v := fun H1 k Q q =>
  ha H1 k _ fun H2 k2 => ⟨p, C, dx, fs, v, rfl, (k.trans k2).get hp, cl, na, hf, q H2 k2⟩
theorem ev_con {w : Value} (ha : EvV ta σ H (.ref p)) (hp : H p = some (.ins C dx fs)) (cl : Cls K C) (na : Con K C f v w) (hf : fs.lookup f = none) : EvV (tCon K ta f) σ H v := fun H1 k Q q =>
  ha H1 k _ fun H2 k2 => ⟨p, C, dx, fs, v, w, rfl, (k.trans k2).get hp, cl, na, hf, q H2 k2⟩
theorem ed_v (h : EvV te σ H v) (hd : TD H v d) : EvD te σ H d := fun H1 k Q q => h H1 k _ fun H2 k2 => q v H2 k2 (hd.kp (k.trans k2))
theorem ev_i (h : EvD te σ H (.int x)) : EvV te σ H (.int x) := fun H1 k Q q => h H1 k _ fun v H2 k2 t => by cases t; exact q H2 k2
theorem ev_s (h : EvD te σ H (.str zs)) : EvV te σ H (.str zs) := fun H1 k Q q => h H1 k _ fun v H2 k2 t => by cases t; exact q H2 k2
theorem ev_b (h : EvD te σ H (.bool b)) : EvV te σ H (.bl b) := fun H1 k Q q => h H1 k _ fun v H2 k2 t => by cases t; exact q H2 k2
theorem ed_b (h : EvV te σ H (.bl b)) : EvD te σ H (.bool b) := ed_v h (.bl b)
theorem ed_fdiv (ha : EvD ta σ H (.int x)) (hb : EvD tb σ H (.int y)) (hc : CDiv x y) : EvD (tOp (rI CDiv fun i j => .int (i / j)) ta tb) σ H (.int (x / y)) := ed_op ha hb fun _ _ q => ⟨_, _, rfl, rfl, hc, q⟩
theorem ed_mod (ha : EvD ta σ H (.int x)) (hb : EvD tb σ H (.int y)) (hc : 0 < y) : EvD (tOp (rI (fun _ j => 0 < j) fun i j => .int (i % j)) ta tb) σ H (.int (x % y)) := ed_op ha hb fun _ _ q => ⟨_, _, rfl, rfl, hc, q⟩
/-- what len asks -/
abbrev rLen (K : PySem.W.Frag) : List V → Hp → VK → Prop := fun xs H Q => ∃ p ys, xs = [.ref p] ∧ (SqL K H p ys ∨ SqT K H p ys) ∧ Q (.int ys.length) H
theorem TDs.atI {xs : List V} {i : Int} (r : TDs H xs ds) (h : L2.atI ds i = some d) : ∃ v, L2.atI xs i = some v ∧ TD H v d := by
  unfold L2.atI at h ⊢
  rw [← r.len] at h
  cases e : ixN xs.length i with
  | none => rw [e] at h; cases h
  | some j =>
    rw [e] at h
    exact r.get h
theorem ed_ixT (ha : EvD ta σ H (.tuple ds)) (hb : EvD tb σ H (.int x)) (h : L2.atI ds x = some d) : EvD (tOp (rIxT K) ta tb) σ H d := fun H1 k Q q =>
  ha H1 k _ fun v H2 k2 t2 => hb H2 (k.trans k2) _ fun u H3 k3 t3 => by
    obtain ⟨p, xs, e, hp, r⟩ := (t2.kp k3).tupI
    obtain ⟨z, h1, h2⟩ := r.atI h
    cases t3
    exact ⟨p, xs, x, z, e, rfl, SqT.of hp, h1, q z H3 (k2.trans k3) h2⟩
theorem ed_ixL (ha : EvV ta σ H (.ref l)) (hl : H l = some (.lst vs)) (r : TDs H vs ds) (hb : EvD tb σ H (.int x)) (h : L2.atI ds x = some d) : EvD (tOp (rIxL K) ta tb) σ H d := fun H1 k Q q =>
  ha H1 k _ fun H2 k2 => hb H2 (k.trans k2) _ fun u H3 k3 t3 => by
    have k' := (k.trans k2).trans k3
    obtain ⟨z, h1, h2⟩ := (r.kp k').atI h
    cases t3
    exact ⟨l, vs, x, z, rfl, rfl, SqL.of (k'.get hl), h1, q z H3 (k2.trans k3) h2⟩
theorem ev_ixL (ha : EvV ta σ H (.ref l)) (hl : H l = some (.lst vs)) (hb : EvD tb σ H (.int x)) (h : L2.atI vs x = some v) : EvV (tOp (rIxL K) ta tb) σ H v := fun H1 k Q q =>
  ha H1 k _ fun H2 k2 => hb H2 (k.trans k2) _ fun u H3 k3 t3 => by
    cases t3
    exact ⟨l, vs, x, v, rfl, rfl, SqL.of (((k.trans k2).trans k3).get hl), h, q H3 (k2.trans k3)⟩
theorem ed_lenT (ha : EvD ta σ H (.tuple ds)) : EvD (tCB (rLen K) (tCons ta tNil)) σ H (.int ds.length) := fun H1 k Q q =>
  ha H1 k _ fun v H2 k2 t2 => by
    obtain ⟨p, xs, e, hp, r⟩ := t2.tupI
    subst e
    exact ⟨p, xs, rfl, .inr (SqT.of hp), q _ H2 k2 (by rw [r.len]; exact .int _)⟩
theorem ed_lenL (ha : EvV ta σ H (.ref l)) (hl : H l = some (.lst vs)) : EvD (tCB (rLen K) (tCons ta tNil)) σ H (.int vs.length) := fun H1 k Q q =>
  ha H1 k _ fun H2 k2 => ⟨l, vs, rfl, .inl (SqL.of ((k.trans k2).get hl)), q _ H2 k2 (.int _)⟩
theorem ed_lenR (ha : EvV ta σ H (.ref l)) (hl : SqT K H l vs) (st : ∀ H', Kp [] H H' → SqT K H' l vs) : EvD (tCB (rLen K) (tCons ta tNil)) σ H (.int vs.length) := fun H1 k Q q =>
  ha H1 k _ fun H2 k2 => ⟨l, vs, rfl, .inr (st _ (k.trans k2)), q _ H2 k2 (.int _)⟩
/-! ### tests -/
theorem et_cmpB {r : R2} {g : Int → Int → Bool} (hr : r = rI0 fun i j => .bl (g i j)) (ha : EvD ta σ H (.int x)) (hb : EvD tb σ H (.int y)) : EvT (tTest (tOp r ta tb)) σ H (g x y) := fun H1 k Q q => by
  subst hr
  exact ev_i ha H1 k _ fun H2 k2 => ev_i hb H2 (k.trans k2) _ fun H3 k3 => ⟨x, y, rfl, rfl, _, rfl, q H3 (k2.trans k3)⟩
theorem et_lt (ha : EvD ta σ H (.int x)) (hb : EvD tb σ H (.int y)) : EvT (tTest (tOp (rI0 fun i j => .bl (decide (i < j))) ta tb)) σ H (decide (x < y)) := et_cmpB rfl ha hb
theorem et_le (ha : EvD ta σ H (.int x)) (hb : EvD tb σ H (.int y)) : EvT (tTest (tOp (rI0 fun i j => .bl (decide (i ≤ j))) ta tb)) σ H (decide (x ≤ y)) := et_cmpB rfl ha hb
theorem et_gt (ha : EvD ta σ H (.int x)) (hb : EvD tb σ H (.int y)) : EvT (tTest (tOp (rI0 fun i j => .bl (decide (j < i))) ta tb)) σ H (decide (y < x)) := et_cmpB (g := fun i j => decide (j < i)) rfl ha hb
theorem et_ge (ha : EvD ta σ H (.int x)) (hb : EvD tb σ H (.int y)) : EvT (tTest (tOp (rI0 fun i j => .bl (decide (j ≤ i))) ta tb)) σ H (decide (y ≤ x)) := et_cmpB (g := fun i j => decide (j ≤ i)) rfl ha hb
theorem et_eqV (ha : EvV ta σ H v) (hb : EvV tb σ H u) (s : scal v u = true) : EvT (tTest (tOp rEq ta tb)) σ H (decide (v = u)) := fun H1 k Q q =>
  ha H1 k _ fun H2 k2 => hb H2 (k.trans k2) _ fun H3 k3 => ⟨s, _, rfl, q H3 (k2.trans k3)⟩
theorem et_neV (ha : EvV ta σ H v) (hb : EvV tb σ H u) (s : scal v u = true) : EvT (tTest (tOp rNe ta tb)) σ H (!decide (v = u)) := fun H1 k Q q =>
  ha H1 k _ fun H2 k2 => hb H2 (k.trans k2) _ fun H3 k3 => ⟨s, _, rfl, q H3 (k2.trans k3)⟩
theorem decI : decide (V.int x = V.int y) = decide (x = y) := decide_eq_decide.mpr ⟨V.int.inj, congrArg _⟩
theorem decS : decide (V.str zs = V.str z') = decide (zs = z') := decide_eq_decide.mpr ⟨V.str.inj, congrArg _⟩
theorem et_eqI (ha : EvD ta σ H (.int x)) (hb : EvD tb σ H (.int y)) : EvT (tTest (tOp rEq ta tb)) σ H (decide (x = y)) := decI ▸ et_eqV (ev_i ha) (ev_i hb) rfl
theorem et_neI (ha : EvD ta σ H (.int x)) (hb : EvD tb σ H (.int y)) : EvT (tTest (tOp rNe ta tb)) σ H (!decide (x = y)) := decI ▸ et_neV (ev_i ha) (ev_i hb) rfl
theorem et_eqS (ha : EvD ta σ H (.str zs)) (hb : EvD tb σ H (.str z')) : EvT (tTest (tOp rEq ta tb)) σ H (decide (zs = z')) := decS ▸ et_eqV (ev_s ha) (ev_s hb) rfl
theorem et_neS (ha : EvD ta σ H (.str zs)) (hb : EvD tb σ H (.str z')) : EvT (tTest (tOp rNe ta tb)) σ H (!decide (zs = z')) := decS ▸ et_neV (ev_s ha) (ev_s hb) rfl
theorem et_val (h : EvD te σ H (.bool b)) : EvT (tB te) σ H b := fun H1 k Q q => ev_b h H1 k _ fun H2 k2 => ⟨b, rfl, q H2 k2⟩
theorem et_not (h : EvT tt σ H b) : EvT (tNot tt) σ H (!b) := fun H1 k Q q => h H1 k _ q
theorem et_and (h : EvT tt σ H b) (h2 : b = true → EvT tu σ H c) : EvT (tAnd tt tu) σ H (b && c) := fun H1 k Q q => h H1 k _ fun H2 k2 => by
  cases b with
  | true => exact iteT (h2 rfl H2 (k.trans k2) _ fun H3 k3 => q H3 (k2.trans k3))
  | false => exact iteF (q H2 k2)
theorem et_or (h : EvT tt σ H b) (h2 : b = false → EvT tu σ H c) : EvT (tOr tt tu) σ H (b || c) := fun H1 k Q q => h H1 k _ fun H2 k2 => by
  cases b with
  | true => exact iteT (q H2 k2)
  | false => exact iteF (h2 rfl H2 (k.trans k2) _ fun H3 k3 => q H3 (k2.trans k3))
theorem ed_andV (h : EvD ta σ H (.bool b)) (h2 : b = true → EvD tb σ H (.bool c)) : EvD (tAndV ta tb) σ H (.bool (b && c)) := fun H1 k Q q => ev_b h H1 k _ fun H2 k2 => ⟨b, rfl, by
  cases b with
  | true => exact iteT (h2 rfl H2 (k.trans k2) _ fun v H3 k3 t => q v H3 (k2.trans k3) t)
  | false => exact iteF (q _ H2 k2 (.bl false))⟩
theorem ed_ltV (ha : EvD ta σ H (.int x)) (hb : EvD tb σ H (.int y)) : EvD (tOp (rI0 fun i j => .bl (decide (i < j))) ta tb) σ H (.bool (decide (x < y))) := fun H1 k Q q =>
  ev_i ha H1 k _ fun H2 k2 => ev_i hb H2 (k.trans k2) _ fun H3 k3 => ⟨x, y, rfl, rfl, q _ H3 (k2.trans k3) (.bl _)⟩
theorem ed_cmpB {r : R2} {g : Int → Int → Bool} (hr : r = rI0 fun i j => .bl (g i j)) (ha : EvD ta σ H (.int x)) (hb : EvD tb σ H (.int y)) : EvD (tOp r ta tb) σ H (.bool (g x y)) := fun H1 k Q q => by
  subst hr
  exact ev_i ha H1 k _ fun H2 k2 => ev_i hb H2 (k.trans k2) _ fun H3 k3 => ⟨x, y, rfl, rfl, q _ H3 (k2.trans k3) (.bl _)⟩
theorem ed_eqV (ha : EvV ta σ H v) (hb : EvV tb σ H u) (s : scal v u = true) : EvD (tOp rEq ta tb) σ H (.bool (decide (v = u))) := fun H1 k Q q =>
  ha H1 k _ fun H2 k2 => hb H2 (k.trans k2) _ fun H3 k3 => ⟨s, q _ H3 (k2.trans k3) (.bl _)⟩
theorem ed_neV (ha : EvV ta σ H v) (hb : EvV tb σ H u) (s : scal v u = true) : EvD (tOp rNe ta tb) σ H (.bool (!decide (v = u))) := fun H1 k Q q =>
  ha H1 k _ fun H2 k2 => hb H2 (k.trans k2) _ fun H3 k3 => ⟨s, q _ H3 (k2.trans k3) (.bl _)⟩
theorem ed_eqI (ha : EvD ta σ H (.int x)) (hb : EvD tb σ H (.int y)) : EvD (tOp rEq ta tb) σ H (.bool (decide (x = y))) := decI ▸ ed_eqV (ev_i ha) (ev_i hb) rfl
theorem ed_neI (ha : EvD ta σ H (.int x)) (hb : EvD tb σ H (.int y)) : EvD (tOp rNe ta tb) σ H (.bool (!decide (x = y))) := decI ▸ ed_neV (ev_i ha) (ev_i hb) rfl
theorem ed_eqS (ha : EvD ta σ H (.str zs)) (hb : EvD tb σ H (.str z')) : EvD (tOp rEq ta tb) σ H (.bool (decide (zs = z'))) := decS ▸ ed_eqV (ev_s ha) (ev_s hb) rfl
/-- the type of data -/
def tyD : PyData → String
  | .none => "NoneType"
  | .bool _ => "bool"
  | .int _ => "int"
  | .str _ => "str"
  | _ => "tuple"
theorem TD.ty {K : PySem.W.Frag} (h : TD H v d) : TyOf K H v (.type (tyD d)) := by
  cases h with
  | non => exact .non
  | bl b => exact .bl b
  | int i => exact .int i
  | str z => exact .str z
  | tup e _ => exact .tup e
theorem ed_isi {c : String} {b : Bool} (ha : EvD ta σ H d) (hk : kitB (tyD d) c = some b) : EvD (tCB (rIsi K) (tCons ta (tCons (tC (.ty c)) tNil))) σ H (.bool b) := fun H1 k Q q =>
  ha H1 k _ fun v H2 k2 t2 => ⟨v, .ty c, .type (tyD d), .type c, b, rfl, .ty c, .base t2.ty, kit_ty hk, q _ H2 k2 (.bl b)⟩
theorem ed_bT (h : EvD te σ H (.bool b)) (e : b = true) : EvD te σ H (.bool true) := e ▸ h
theorem et_T (h : EvT tt σ H b) (e : b = true) : EvT tt σ H true := e ▸ h
theorem et_F (h : EvT tt σ H b) (e : b = false) : EvT tt σ H false := e ▸ h
theorem kit_tt : kitB "tuple" "tuple" = some true := by decide +kernel
theorem kit_ss : kitB "str" "str" = some true := by decide +kernel
theorem at0 {α : Type} {a : α} {xs : List α} : L2.atI (a :: xs) 0 = some a := L2.atI_nat (j := 0) rfl
theorem at1 {α : Type} {a b : α} {xs : List α} : L2.atI (a :: b :: xs) 1 = some b := L2.atI_nat (j := 1) rfl
theorem at2 {α : Type} {a b c : α} {xs : List α} : L2.atI (a :: b :: c :: xs) 2 = some c := L2.atI_nat (j := 2) rfl
theorem at3 {α : Type} {a b c d : α} {xs : List α} : L2.atI (a :: b :: c :: d :: xs) 3 = some d := L2.atI_nat (j := 3) rfl
theorem at4 {α : Type} {a b c d e : α} {xs : List α} : L2.atI (a :: b :: c :: d :: e :: xs) 4 = some e := L2.atI_nat (j := 4) rfl
theorem ed_if (h : EvT tt σ H b) (h1 : b = true → EvD ta σ H d) (h2 : b = false → EvD tb σ H d) : EvD (tIf tt ta tb) σ H d := fun H1 k Q q => h H1 k _ fun H2 k2 => by
  cases b with
  | true => exact iteT (h1 rfl H2 (k.trans k2) _ fun v H3 k3 t => q v H3 (k2.trans k3) t)
  | false => exact iteF (h2 rfl H2 (k.trans k2) _ fun v H3 k3 t => q v H3 (k2.trans k3) t)
theorem ed_chainII {r r' : R2} {g g' : Int → Int → Bool} {tc : TE} {z : Int} (hr : r = rI0 fun i j => .bl (g i j)) (hr' : r' = rI0 fun i j => .bl (g' i j)) (ha : EvD ta σ H (.int x)) (hb : EvD tb σ H (.int y)) (hc : EvD tc σ H (.int z)) :
    EvD (tChain r r' ta tb tc) σ H (.bool (g x y && g' y z)) := fun H1 k Q q => by
  subst hr hr'
  exact ev_i ha H1 k _ fun H2 k2 => ev_i hb H2 (k.trans k2) _ fun H3 k3 => ⟨x, y, rfl, rfl, g x y, rfl, by
    cases e : g x y with
    | true => exact iteT (ev_i hc H3 ((k.trans k2).trans k3) _ fun H4 k4 => ⟨y, z, rfl, rfl, q _ H4 ((k2.trans k3).trans k4) (by rw [e]; exact .bl _)⟩)
    | false => exact iteF (q _ H3 (k2.trans k3) (by rw [e]; exact .bl _))⟩
/-! ### statements -/
variable {D : Ends} {tx ty : TS}
theorem st_if (h : EvT tt σ H b) (h1 : b = true → ∀ H1, Kp [] H H1 → tx D σ H1) (h2 : b = false → ∀ H1, Kp [] H H1 → ty D σ H1) : tIfS tt tx ty D σ H := h H (Kp.refl _ _) _ fun H1 k => by
  cases b with
  | true => exact iteT (h1 rfl H1 k)
  | false => exact iteF (h2 rfl H1 k)
theorem st_ifT (h : EvT tt σ H true) (h1 : ∀ H1, Kp [] H H1 → tx D σ H1) : tIfS tt tx ty D σ H := st_if h (fun _ => h1) fun z => Bool.noConfusion z
theorem st_ifF (h : EvT tt σ H false) (h1 : ∀ H1, Kp [] H H1 → ty D σ H1) : tIfS tt tx ty D σ H := st_if h (fun z => Bool.noConfusion z) fun _ => h1
theorem sv_set (h : EvV te σ H v) (n : ∀ H1, Kp [] H H1 → D.nx (σ.set i (some v)) H1) : tAsg te (gName i) D σ H := h H (Kp.refl _ _) _ n
theorem sv_ret (h : EvV te σ H v) (n : ∀ H1, Kp [] H H1 → D.rt v H1) : tRet te D σ H := h H (Kp.refl _ _) _ n
/-! ### extending, appending: the list at l -/
theorem sx_ext {to : TE} (ho : EvV to σ H (.ref l)) (hl : H l = some (.lst vs)) (hv : TDs H vs ds) (ha : EvL ta σ H es) (hz : ds.length + es.length ≤ 100000)
    (n : ∀ us H1, H1 l = some (.lst us) → TDs H1 us (ds ++ es) → Kp [l] H H1 → D.nx σ H1) : tDrop (tBM K "list" rExtend to (tCons ta tNil)) D σ H :=
  ho H (Kp.refl _ _) _ fun H1 k1 => ⟨.inl ⟨rfl, _, SqL.of (k1.get hl)⟩, ha H1 k1 _ fun m us H2 hm k2 em t2 => by
    have kk := k1.trans k2
    have el := kk.get hl
    refine ⟨l, m, vs, us, rfl, rfl, el, em, le_line (by rw [hv.len, t2.len]; exact hz), ?_⟩
    have k3 : Kp [l] H (upd H2 l (.lst (vs ++ us))) := kk.wid.putT (List.mem_singleton.mpr rfl) el (fun xs z => HO.noConfusion z)
    exact n _ _ upd_same (((hv.kp k1).kp (k2.wid.putT (S := [l]) (List.mem_singleton.mpr rfl) el (fun xs z => HO.noConfusion z))).app (t2.kp (Kp.put (S := [l]) (List.mem_singleton.mpr rfl) el (fun xs z => HO.noConfusion z)))) k3⟩
theorem sx_app {to : TE} (ho : EvV to σ H (.ref l)) (hl : H l = some (.lst vs)) (hv : TDs H vs ds) (ha : EvD ta σ H d) (hz : ds.length < 100000)
    (n : ∀ us H1, H1 l = some (.lst us) → TDs H1 us (ds ++ [d]) → Kp [l] H H1 → D.nx σ H1) : tDrop (tBM K "list" rAppend to (tCons ta tNil)) D σ H :=
  ho H (Kp.refl _ _) _ fun H1 k1 => ⟨.inl ⟨rfl, _, SqL.of (k1.get hl)⟩, ha H1 k1 _ fun u H2 k2 t2 => by
    have kk := k1.trans k2
    have el := kk.get hl
    have kp : Kp [l] H2 (upd H2 l (.lst (vs ++ [u]))) := Kp.put (List.mem_singleton.mpr rfl) el (fun xs z => HO.noConfusion z)
    exact ⟨l, vs, u, rfl, rfl, el, lt_line (by rw [hv.len]; exact hz), n _ _ upd_same (((hv.kp kk).kp kp).app (.one (t2.kp kp))) (kk.wid.trans kp)⟩⟩
end
end Sr
/-! Words, registers, operators. -/
namespace Sr
open PySem PySem.Spec PyProof.Rows L2
section
variable {P : Program} {w : World} {K : PySem.W.Frag} {mg : Str → Option Value} {base : Heap} {f : Addr} {fd : FuncData}
abbrev s_is_integer : Stmt := top 11
theorem sc_is_integer : FnScope ["thing"] ["thing"] (defScope s_is_integer) := ⟨rfl, rfl, rfl, by decide +kernel, rfl, by decide +kernel, by decide +kernel⟩
/-- of ints alone -/
def sp_is_integer : Sp := fun vs H Q _ => ∃ i : Int, vs = [.int i] ∧ Q (.bl true) H
theorem ok_is_integer (F : At K mg "is_integer" "is_integer" s_is_integer ["thing"] f fd) (T : Txt K mg) : FnOk P w K mg base CX0 1 f fd ["thing"] sp_is_integer := by
  refine F.fn.ok sc_is_integer (fun vs H Q E h => ?_) (fun cdv A outer s H vs Q E hr h => ?_)
  · obtain ⟨i, rfl, _⟩ := h
    rfl
  · obtain ⟨i, rfl, k⟩ := h
    refine ⟨_, (pss_one (ps_ret (pe_and (pe_callB call_isi rfl T.f_isinstance (by decide +kernel) (pa_cons (pv 0) (pa_cons (pe_bltn (v := .ty "int") (u := .type "int") rfl T.f_int (by decide +kernel) rfl) pa_nil))) (pe_one (pe_not (pe_callB call_isi rfl T.f_isinstance (by decide +kernel) (pa_cons (pv 0) (pa_cons (pe_bltn (v := .ty "bool") (u := .type "bool") rfl T.f_bool (by decide +kernel) rfl) pa_nil)))))))), ?_⟩
    refine ⟨_, rfl, _, _, _, _, true, rfl, .ty _, .base (.int i), kit_ty (by decide +kernel), _, rfl, ?_⟩
    exact ⟨_, rfl, _, _, _, _, false, rfl, .ty _, .base (.int i), kit_ty (by decide +kernel), _, rfl, k⟩
def isWord (i : Int) : Bool := decide (0 ≤ i) && decide (i ≤ 999999)
abbrev s_is_word : Stmt := top 12
theorem sc_is_word : FnScope ["thing"] ["thing"] (defScope s_is_word) := ⟨rfl, rfl, rfl, by decide +kernel, rfl, by decide +kernel, by decide +kernel⟩
def sp_is_word : Sp := fun vs H Q _ => ∃ i : Int, vs = [.int i] ∧ Q (.bl (isWord i)) H
theorem ok_is_word (F : At K mg "is_word" "is_word" s_is_word ["thing"] f fd) (T : Txt K mg) (g_is_integer : GF P w K mg base 1 "is_integer" ["thing"] sp_is_integer) : FnOk P w K mg base CX0 2 f fd ["thing"] sp_is_word := by
  refine F.fn.ok sc_is_word (fun vs H Q E h => ?_) (fun cdv A outer s H vs Q E hr h => ?_)
  · obtain ⟨i, rfl, _⟩ := h
    rfl
  · obtain ⟨i, rfl, k⟩ := h
    refine ⟨_, (pss_one (ps_ret (pe_and (pe_gf g_is_integer (hr.mono (by decide)) rfl (pa_cons (pv 0) pa_nil)) (pe_one (pe_chain op_le op_le pe_int (pv 0) (pe_gi T.c_GREATEST_WORD rfl)))))), ?_⟩
    refine ⟨_, rfl, i, rfl, _, rfl, iteT ?_⟩
    refine ⟨_, rfl, _, _, rfl, rfl, _, rfl, ?_⟩
    unfold isWord at k
    by_cases h0 : 0 ≤ i
    · rw [decide_eq_true h0] at k ⊢
      exact iteT ⟨_, _, rfl, rfl, k⟩
    · rw [decide_eq_false h0] at k ⊢
      exact iteF k
abbrev s_operator_value : Stmt := top 15
theorem sc_operator_value : FnScope ["operator", "one", "other"] ["operator", "one", "other"] (defScope s_operator_value) := ⟨rfl, rfl, rfl, by decide +kernel, rfl, by decide +kernel, by decide +kernel⟩
def sp_operator_value : Sp := fun vs H Q _ => ∃ (o : Str) (a b : Int), o ∈ opL ∧ (0 ≤ a ∧ a ≤ 999999) ∧ (0 ≤ b ∧ b ≤ 999999) ∧ vs = [.str o, .int a, .int b] ∧ Q (.int (opv o a b)) H
theorem str_dec {a b : Str} {c : Bool} (h : (decide (V.str a = V.str b)) = c) : decide (a = b) = c := by
  rw [← h, dec_str]
  by_cases e : a = b
  · subst e; simp
  · rw [decide_eq_false e]; exact (beq_eq_false_iff_ne.mpr e).symm
theorem str_yes {a b : Str} (h : decide (V.str a = V.str b) = true) : a = b := of_decide_eq_true (str_dec h)
theorem str_no {a b : Str} (h : ¬ decide (V.str a = V.str b) = true) : ¬ a = b := fun e => h (by rw [e]; exact decide_eq_true rfl)
theorem ok_operator_value (F : At K mg "operator_value" "operator_value" s_operator_value ["operator", "one", "other"] f fd) (T : Txt K mg) : FnOk P w K mg base CX0 1 f fd ["operator", "one", "other"] sp_operator_value := by
  refine F.fn.ok sc_operator_value (fun vs H Q E h => ?_) (fun cdv A outer s H vs Q E hr h => ?_)
  · obtain ⟨o, a, b, _, _, _, rfl, _⟩ := h
    rfl
  · obtain ⟨o, a, b, ho, ha, hb, rfl, k⟩ := h
    refine ⟨_, (pss_cons (ps_if (pt_cmpR op_eq (pv 0) pe_str (nomark _)) (pss_one (ps_ret (pe_op op_mod (pe_op op_add (pv 1) (pv 2)) (pe_gi T.c_SIZE_OF_WORDS rfl)))) pss_nil)
      (pss_cons (ps_if (pt_cmpR op_eq (pv 0) pe_str (nomark _)) (pss_one (ps_ret (pe_op op_mod (pe_op op_sub (pv 1) (pv 2)) (pe_gi T.c_SIZE_OF_WORDS rfl)))) pss_nil)
      (pss_cons (ps_if (pt_cmpR op_eq (pv 0) pe_str (nomark _)) (pss_one (ps_ret (pe_op op_mod (pe_op op_mul (pv 1) (pv 2)) (pe_gi T.c_SIZE_OF_WORDS rfl)))) pss_nil)
      (pss_cons (ps_if (pt_cmpR op_eq (pv 0) pe_str (nomark _)) (pss_one (ps_ret (pe_callTy call_int1 rfl T.f_int (by decide +kernel) (pa_cons (pe_cmpR op_lt (pv 1) (pv 2) (nomark _)) pa_nil)))) pss_nil)
      (pss_cons (ps_if (pt_cmpR op_eq (pv 0) pe_str (nomark _)) (pss_one (ps_ret (pe_callTy call_int1 rfl T.f_int (by decide +kernel) (pa_cons (pe_cmpR op_eq (pv 1) (pv 2) (nomark _)) pa_nil)))) pss_nil)
      (pss_cons (ps_if (pt_cmpR op_eq (pv 2) pe_int (nomark _)) (pss_one (ps_ret pe_int)) pss_nil)
      (pss_one (ps_ret (pe_ifExp (pt_cmpR op_eq (pv 0) pe_str (nomark _)) (pe_op op_fdiv (pv 1) (pv 2)) (pe_op op_mod (pv 1) (pv 2))))))))))), ?_⟩
    have k' : ∀ z : Int, opv o a b = z → Q (.int z) H := fun z e => e ▸ k
    unfold opv at k'
    refine ⟨_, rfl, rfl, _, rfl, ite2 (fun c => ?_) fun c => ?_⟩
    · rw [if_pos (str_yes c)] at k'
      exact ⟨_, rfl, _, rfl, _, _, rfl, rfl, _, _, rfl, rfl, (by show (0 : Int) < 1000000; decide), k' _ rfl⟩
    rw [if_neg (str_no c)] at k'
    refine ⟨_, rfl, rfl, _, rfl, ite2 (fun c => ?_) fun c => ?_⟩
    · rw [if_pos (str_yes c)] at k'
      exact ⟨_, rfl, _, rfl, _, _, rfl, rfl, _, _, rfl, rfl, (by show (0 : Int) < 1000000; decide), k' _ rfl⟩
    rw [if_neg (str_no c)] at k'
    refine ⟨_, rfl, rfl, _, rfl, ite2 (fun c => ?_) fun c => ?_⟩
    · rw [if_pos (str_yes c)] at k'
      exact ⟨_, rfl, _, rfl, _, _, rfl, rfl, .inl ⟨by omega, by omega⟩, _, _, rfl, rfl, (by show (0 : Int) < 1000000; decide), k' _ rfl⟩
    rw [if_neg (str_no c)] at k'
    refine ⟨_, rfl, rfl, _, rfl, ite2 (fun c => ?_) fun c => ?_⟩
    · rw [if_pos (str_yes c)] at k'
      refine ⟨_, rfl, _, rfl, _, _, rfl, rfl, .inr ⟨_, rfl, k' _ ?_⟩⟩
      by_cases q : a < b
      · rw [if_pos q, decide_eq_true q] <;> rfl
      · rw [if_neg q, decide_eq_false q] <;> rfl
    rw [if_neg (str_no c)] at k'
    refine ⟨_, rfl, rfl, _, rfl, ite2 (fun c => ?_) fun c => ?_⟩
    · rw [if_pos (str_yes c)] at k'
      refine ⟨_, rfl, _, rfl, rfl, .inr ⟨_, rfl, k' _ ?_⟩⟩
      by_cases q : a = b
      · rw [if_pos q, decide_eq_true (congrArg V.int q)] <;> rfl
      · rw [if_neg q, decide_eq_false (fun z => q (V.int.inj z))] <;> rfl
    rw [if_neg (str_no c)] at k'
    refine ⟨_, rfl, rfl, _, rfl, ite2 (fun c => ?_) fun c => ?_⟩
    · rw [if_pos (V.int.inj (of_decide_eq_true c))] at k'
      exact k' _ rfl
    have nb : ¬ b = 0 := fun e => c (by rw [e]; exact decide_eq_true rfl)
    rw [if_neg nb] at k'
    refine ⟨_, rfl, rfl, _, rfl, ite2 (fun c => ?_) fun c => ?_⟩
    · rw [if_pos (str_yes c)] at k'
      exact ⟨_, rfl, _, rfl, _, _, rfl, rfl, ⟨by omega, by omega⟩, k' _ rfl⟩
    · rw [if_neg (str_no c)] at k'
      exact ⟨_, rfl, _, rfl, _, _, rfl, rfl, (by show (0 : Int) < b; omega), k' _ rfl⟩
def inR (a i b : Int) : Bool := decide (a ≤ i) && decide (i < b)
def inC (a i b : Int) : Bool := decide (a ≤ i) && decide (i ≤ b)
abbrev s_is_number_below : Stmt := top 22
theorem sc_is_number_below : FnScope ["thing", "bound"] ["thing", "bound"] (defScope s_is_number_below) := ⟨rfl, rfl, rfl, by decide +kernel, rfl, by decide +kernel, by decide +kernel⟩
def sp_is_number_below : Sp := fun vs H Q _ => ∃ i b : Int, vs = [.int i, .int b] ∧ Q (.bl (inR 0 i b)) H
theorem ok_is_number_below (F : At K mg "is_number_below" "is_number_below" s_is_number_below ["thing", "bound"] f fd) (T : Txt K mg) (g_is_integer : GF P w K mg base 1 "is_integer" ["thing"] sp_is_integer) : FnOk P w K mg base CX0 2 f fd ["thing", "bound"] sp_is_number_below := by
  refine F.fn.ok sc_is_number_below (fun vs H Q E h => ?_) (fun cdv A outer s H vs Q E hr h => ?_)
  · obtain ⟨i, b, rfl, _⟩ := h
    rfl
  · obtain ⟨i, b, rfl, k⟩ := h
    refine ⟨_, (pss_one (ps_ret (pe_and (pe_gf g_is_integer (hr.mono (by decide)) rfl (pa_cons (pv 0) pa_nil)) (pe_one (pe_chain op_le op_lt pe_int (pv 0) (pv 1)))))), ?_⟩
    refine ⟨_, rfl, i, rfl, _, rfl, iteT ?_⟩
    refine ⟨_, rfl, _, _, rfl, rfl, _, rfl, ?_⟩
    unfold inR at k
    by_cases h0 : 0 ≤ i
    · rw [decide_eq_true h0] at k ⊢
      exact iteT ⟨_, rfl, _, _, rfl, rfl, k⟩
    · rw [decide_eq_false h0] at k ⊢
      exact iteF k
abbrev s_is_register : Stmt := top 23
theorem sc_is_register : FnScope ["thing"] ["thing"] (defScope s_is_register) := ⟨rfl, rfl, rfl, by decide +kernel, rfl, by decide +kernel, by decide +kernel⟩
def sp_is_register : Sp := fun vs H Q _ => ∃ i : Int, vs = [.int i] ∧ Q (.bl (inR 0 i 24)) H
theorem ok_is_register (F : At K mg "is_register" "is_register" s_is_register ["thing"] f fd) (T : Txt K mg) (g_is_number_below : GF P w K mg base 2 "is_number_below" ["thing", "bound"] sp_is_number_below) : FnOk P w K mg base CX0 3 f fd ["thing"] sp_is_register := by
  refine F.fn.ok sc_is_register (fun vs H Q E h => ?_) (fun cdv A outer s H vs Q E hr h => ?_)
  · obtain ⟨i, rfl, _⟩ := h
    rfl
  · obtain ⟨i, rfl, k⟩ := h
    refine ⟨_, (pss_one (ps_ret (pe_gf g_is_number_below (hr.mono (by decide)) rfl (pa_cons (pv 0) (pa_cons (pe_gi T.c_RECIPE_REGISTERS rfl) pa_nil))))), ?_⟩
    exact ⟨_, rfl, i, _, rfl, k⟩
abbrev s_is_number : Stmt := top 42
theorem sc_is_number : FnScope ["value", "least", "most"] ["value", "least", "most"] (defScope s_is_number) := ⟨rfl, rfl, rfl, by decide +kernel, rfl, by decide +kernel, by decide +kernel⟩
def sp_is_number : Sp := fun vs H Q _ => ∃ i a b : Int, vs = [.int i, .int a, .int b] ∧ Q (.bl (inC a i b)) H
theorem ok_is_number (F : At K mg "is_number" "is_number" s_is_number ["value", "least", "most"] f fd) (T : Txt K mg) : FnOk P w K mg base CX0 1 f fd ["value", "least", "most"] sp_is_number := by
  refine F.fn.ok sc_is_number (fun vs H Q E h => ?_) (fun cdv A outer s H vs Q E hr h => ?_)
  · obtain ⟨i, a, b, rfl, _⟩ := h
    rfl
  · obtain ⟨i, a, b, rfl, k⟩ := h
    refine ⟨_, (pss_one (ps_ret (pe_and (pe_callB call_isi rfl T.f_isinstance (by decide +kernel) (pa_cons (pv 0) (pa_cons (pe_bltn (v := .ty "int") (u := .type "int") rfl T.f_int (by decide +kernel) rfl) pa_nil))) (pe_and (pe_not (pe_callB call_isi rfl T.f_isinstance (by decide +kernel) (pa_cons (pv 0) (pa_cons (pe_bltn (v := .ty "bool") (u := .type "bool") rfl T.f_bool (by decide +kernel) rfl) pa_nil)))) (pe_one (pe_chain op_le op_le (pv 1) (pv 0) (pv 2))))))), ?_⟩
    refine ⟨_, rfl, _, _, _, _, true, rfl, .ty _, .base (.int i), kit_ty (by decide +kernel), _, rfl, iteT ?_⟩
    refine ⟨_, rfl, _, _, _, _, false, rfl, .ty _, .base (.int i), kit_ty (by decide +kernel), _, rfl, _, rfl, iteT ?_⟩
    refine ⟨_, rfl, _, rfl, _, _, rfl, rfl, _, rfl, ?_⟩
    unfold inC at k
    by_cases h0 : a ≤ i
    · rw [decide_eq_true h0] at k ⊢
      exact iteT ⟨_, rfl, _, _, rfl, rfl, k⟩
    · rw [decide_eq_false h0] at k ⊢
      exact iteF k
abbrev s_is_index : Stmt := top 60
theorem sc_is_index : FnScope ["value", "count"] ["value", "count"] (defScope s_is_index) := ⟨rfl, rfl, rfl, by decide +kernel, rfl, by decide +kernel, by decide +kernel⟩
def sp_is_index : Sp := fun vs H Q _ => ∃ i b : Int, vs = [.int i, .int b] ∧ Q (.bl (inR 0 i b)) H
theorem ok_is_index (F : At K mg "is_index" "is_index" s_is_index ["value", "count"] f fd) (T : Txt K mg) : FnOk P w K mg base CX0 1 f fd ["value", "count"] sp_is_index := by
  refine F.fn.ok sc_is_index (fun vs H Q E h => ?_) (fun cdv A outer s H vs Q E hr h => ?_)
  · obtain ⟨i, b, rfl, _⟩ := h
    rfl
  · obtain ⟨i, b, rfl, k⟩ := h
    refine ⟨_, (pss_one (ps_ret (pe_and (pe_callB call_isi rfl T.f_isinstance (by decide +kernel) (pa_cons (pv 0) (pa_cons (pe_bltn (v := .ty "int") (u := .type "int") rfl T.f_int (by decide +kernel) rfl) pa_nil))) (pe_and (pe_not (pe_callB call_isi rfl T.f_isinstance (by decide +kernel) (pa_cons (pv 0) (pa_cons (pe_bltn (v := .ty "bool") (u := .type "bool") rfl T.f_bool (by decide +kernel) rfl) pa_nil)))) (pe_one (pe_chain op_le op_lt pe_int (pv 0) (pv 1))))))), ?_⟩
    refine ⟨_, rfl, _, _, _, _, true, rfl, .ty _, .base (.int i), kit_ty (by decide +kernel), _, rfl, iteT ?_⟩
    refine ⟨_, rfl, _, _, _, _, false, rfl, .ty _, .base (.int i), kit_ty (by decide +kernel), _, rfl, _, rfl, iteT ?_⟩
    refine ⟨_, rfl, _, _, rfl, rfl, _, rfl, ?_⟩
    unfold inR at k
    by_cases h0 : 0 ≤ i
    · rw [decide_eq_true h0] at k ⊢
      exact iteT ⟨_, rfl, _, _, rfl, rfl, k⟩
    · rw [decide_eq_false h0] at k ⊢
      exact iteF k
def manyS (z : Str) : Int := if z = "set" ∨ z = "load" then 0 else if z = "choose" then 3 else 2
abbrev s_many_sources : Stmt := top 24
theorem sc_many_sources : FnScope ["word"] ["word"] (defScope s_many_sources) := ⟨rfl, rfl, rfl, by decide +kernel, rfl, by decide +kernel, by decide +kernel⟩
def sp_many_sources : Sp := fun vs H Q _ => ∃ z : Str, (z = "set" ∨ z = "load" ∨ z = "choose" ∨ z ∈ opL) ∧ vs = [.str z] ∧ ∀ H', Kp [] H H' → Q (.int (manyS z)) H'
theorem eqV_str (a b : Str) : eqV (.str a) (.str b) = decide (a = b) := by
  first
  | rfl
  | (unfold eqV; by_cases e : a = b
     · subst e; simp
     · simp [e])
theorem inV_strs (z : Str) : ∀ l : List Str, inV (.str z) (l.map V.str) = decide (z ∈ l)
  | [] => by simp [inV]
  | a :: l => by
    have ih := inV_strs z l
    unfold inV at ih ⊢
    rw [List.map_cons, List.any_cons, ih, eqV_str]
    by_cases e : a = z
    · subst e; simp
    · simp [e, Ne.symm e]
theorem flat_strs (l : List Str) : (l.map V.str).all flatV = true := by
  rw [List.all_eq_true]
  intro x hx
  obtain ⟨a, _, rfl⟩ := List.mem_map.mp hx
  rfl
theorem ok_many_sources (F : At K mg "many_sources" "many_sources" s_many_sources ["word"] f fd) (T : Txt K mg) : FnOk P w K mg base CX0 1 f fd ["word"] sp_many_sources := by
  refine F.fn.ok sc_many_sources (fun vs H Q E h => ?_) (fun cdv A outer s H vs Q E hr h => ?_)
  · obtain ⟨z, _, rfl, _⟩ := h
    rfl
  · obtain ⟨z, hz, rfl, k⟩ := h
    refine ⟨_, (pss_cons (ps_if (pt_cmpR op_in_seq (pv 0) (pe_tup (pa_cons (pe_gs T.c_SET rfl) (pa_cons (pe_gs T.c_LOAD rfl) pa_nil))) (by rfl)) (pss_one (ps_ret pe_int)) pss_nil)
      (pss_cons (ps_if (pt_cmpR op_eq (pv 0) (pe_gs T.c_CHOOSE rfl) (nomark _)) (pss_one (ps_ret pe_int)) pss_nil)
      (pss_one (ps_ret (pe_ifExp (pt_cmpR op_in_seq (pv 0) (pe_glob (v := .ref (aO K)) rfl T.g_OPERATORS rfl) (by rfl)) pe_int pe_non))))), ?_⟩
    refine ⟨_, rfl, (by show 2 ≤ sizeLine; decide), fun p hp => ?_⟩
    have k1 : Kp [] H (upd H p (.tup [.str "set", .str "load"])) := Kp.new hp
    have e1 : inV (.str z) [.str "set", .str "load"] = decide (z = "set" ∨ z = "load") := (inV_strs z ["set", "load"]).trans (by simp)
    refine ⟨p, _, rfl, .inr (SqT.of upd_same), rfl, flat_strs ["set", "load"], _, rfl, ?_⟩
    show if (if false = true then !inV (.str z) [.str "set", .str "load"] else inV (.str z) [.str "set", .str "load"]) = true then _ else _
    rw [if_neg Bool.false_ne_true, e1]
    refine ite2 (fun c => ?_) fun c => ?_
    · have q := k _ k1
      unfold manyS at q
      rw [if_pos (of_decide_eq_true c)] at q
      exact q
    have n1 : ¬ (z = "set" ∨ z = "load") := fun e => c (decide_eq_true e)
    refine ⟨_, rfl, rfl, _, rfl, ite2 (fun c => ?_) fun c => ?_⟩
    · have q := k _ k1
      unfold manyS at q
      rw [if_neg n1, if_pos (str_yes c)] at q
      exact q
    have q := k _ k1
    unfold manyS at q
    rw [if_neg n1, if_neg (str_no c)] at q
    have ho : z ∈ opL := by
      rcases hz with e | e | e | e
      · exact absurd (.inl e) n1
      · exact absurd (.inr e) n1
      · exact absurd e (str_no c)
      · exact e
    refine ⟨_, rfl, aO K, _, rfl, .inr (T.t_OPERATORS _), rfl, flat_strs opL, _, rfl, ?_⟩
    show if (if false = true then !inV (.str z) (opL.map V.str) else inV (.str z) (opL.map V.str)) = true then _ else _
    rw [if_neg Bool.false_ne_true, inV_strs, decide_eq_true ho]
    exact iteT q
end
end Sr
/-! Addresses, rows that count and choose. -/
namespace Sr
open PySem PySem.Spec PyProof.Rows L2
local macro_rules | `(tactic| walk_at "ed") => `(tactic| repeat' (first | exact eds_nil | refine eds_cons ?_ ?_ | refine ed_tup ?_ | exact ed_i | exact ed_s | exact ed_var rfl (TD.int _) | exact ed_var rfl (TD.str _) | exact ed_var rfl (by assumption) | refine ed_add ?_ ?_ | refine ed_sub ?_ ?_))
section
variable {P : Program} {w : World} {K : PySem.W.Frag} {mg : Str → Option Value} {base : Heap} {f : Addr} {fd : FuncData}
abbrev s_store_addresses : Stmt := top 44
theorem sc_store_addresses : FnScope ["size", "copy", "length", "first"] ["size", "copy"] (defScope s_store_addresses) := ⟨rfl, rfl, rfl, by decide +kernel, rfl, by decide +kernel, by decide +kernel⟩
def sp_store_addresses : Sp := fun vs H Q _ => ∃ n c : Int, (0 ≤ n ∧ n ≤ 1000) ∧ (0 ≤ c ∧ c ≤ 1000) ∧ vs = [.int n, .int c] ∧ ∀ p, H p = none → Q (.ref p) (upd H p (.tup [.int (oldA n c), .int (newA n c), .int (lookA n c), .int (bestA n c)]))
theorem ok_store_addresses (F : At K mg "store_addresses" "store_addresses" s_store_addresses ["size", "copy"] f fd) (T : Txt K mg) : FnOk P w K mg base CX0 1 f fd ["size", "copy"] sp_store_addresses := by
  refine F.fn.ok sc_store_addresses (fun vs H Q E h => ?_) (fun cdv A outer s H vs Q E hr h => ?_)
  · obtain ⟨n, c, _, _, rfl, _⟩ := h
    rfl
  · obtain ⟨n, c, hn, hc, rfl, k⟩ := h
    refine ⟨_, (pss_cons (ps_set (i := 2) sc_store_addresses.nd rfl (Or.inl rfl) (pe_op op_add (pv 0) pe_int))
      (pss_cons (ps_set (i := 3) sc_store_addresses.nd rfl (Or.inl rfl) (pe_op op_mul (pe_op op_mul (pe_gi T.c_STORES_rings rfl) (pv 2)) (pv 1)))
      (pss_one (ps_ret (pe_tup (pa_cons (pv 3) (pa_cons (pe_op op_add (pv 3) (pv 2)) (pa_cons (pe_op op_add (pv 3) (pe_op op_mul pe_int (pv 2))) (pa_cons (pe_op op_add (pv 3) (pe_op op_mul pe_int (pv 2))) pa_nil))))))))), ?_⟩
    refine ⟨_, rfl, _, _, rfl, rfl, _, rfl, _, _, rfl, rfl, .inl ⟨by decide, by decide⟩, _, rfl, _, _, rfl, rfl, .inl ⟨by omega, by omega⟩, ?_⟩
    refine ⟨_, rfl, _, rfl, _, rfl, _, _, rfl, rfl, _, rfl, _, rfl, _, _, rfl, rfl, .inl ⟨by decide, by decide⟩, _, _, rfl, rfl, _, rfl, _, rfl, _, _, rfl, rfl, .inl ⟨by decide, by decide⟩, _, _, rfl, rfl, (by show 4 ≤ sizeLine; decide), k⟩
abbrev s_counting_rows : Stmt := top 45
theorem sc_counting_rows : FnScope ["old", "address", "rows"] ["old", "address"] (defScope s_counting_rows) := ⟨rfl, rfl, rfl, by decide +kernel, rfl, by decide +kernel, by decide +kernel⟩
def sp_counting_rows : Sp := fun vs H Q _ => ∃ old a : Int, vs = [.int old, .int a] ∧ ∀ l us H', H l = none → Kp [] H H' → H' l = some (.lst us) → TDs H' us ((countR old a).map rowD) → Q (.ref l) H'
theorem ok_counting_rows (F : At K mg "counting_rows" "counting_rows" s_counting_rows ["old", "address"] f fd) (T : Txt K mg) : FnOk P w K mg base CX0 1 f fd ["old", "address"] sp_counting_rows := by
  refine F.fn.ok sc_counting_rows (fun vs H Q E h => ?_) (fun cdv A outer s H vs Q E hr h => ?_)
  · obtain ⟨n, c, rfl, _⟩ := h
    rfl
  · obtain ⟨old, a, rfl, k⟩ := h
    refine ⟨_, (pss_cons (ps_set (i := 2) sc_counting_rows.nd rfl (Or.inl rfl) (pe_lst (pa_cons (pe_tup (pa_cons pe_str (pa_cons pe_int (pa_cons (pv 0) pa_nil)))) (pa_cons (pe_tup (pa_cons pe_str (pa_cons pe_int (pa_cons (pe_op op_add (pv 0) pe_int) pa_nil)))) (pa_cons (pe_tup (pa_cons pe_str (pa_cons pe_int (pa_cons pe_int pa_nil)))) (pa_cons (pe_tup (pa_cons pe_str (pa_cons pe_int (pa_cons pe_int (pa_cons pe_int pa_nil))))) pa_nil))))))
      (pss_one (ps_ret (pe_lst (StX.pa_star (pv 2) (pa_cons (pe_tup (pa_cons pe_str (pa_cons pe_int (pa_cons pe_int (pa_cons pe_int pa_nil))))) (pa_cons (pe_tup (pa_cons pe_str (pa_cons pe_int (pa_cons (pv 1) pa_nil)))) pa_nil))))))), ?_⟩
    refine sl_set (ds := ((countR old a).take 4).map rowD) (el_lst (by walk_at "ed") (Nat.le_of_ble_eq_true rfl)) fun l vs H1 hl k1 e1 t1 => ?_
    refine sl_ret (ds := (countR old a).map rowD) (el_lst (eds_starV rfl e1 t1 (by walk_at "ed")) (Nat.le_of_ble_eq_true rfl)) fun l2 vs2 H2 hl2 k2 e2 t2 => ?_
    exact k l2 vs2 H2 (k1.free hl2) (k1.trans k2) e2 t2
abbrev s_choosing_rows : Stmt := top 47
theorem sc_choosing_rows : FnScope ["index", "old", "new", "result", "rows"] ["index", "old", "new", "result"] (defScope s_choosing_rows) := ⟨rfl, rfl, rfl, by decide +kernel, rfl, by decide +kernel, by decide +kernel⟩
def sp_choosing_rows : Sp := fun vs H Q _ => ∃ ix old new res : Int, vs = [.int ix, .int old, .int new, .int res] ∧ ∀ l us H', H l = none → Kp [] H H' → H' l = some (.lst us) → TDs H' us ((chooseR ix old new res).map rowD) → Q (.ref l) H'
theorem ok_choosing_rows (F : At K mg "choosing_rows" "choosing_rows" s_choosing_rows ["index", "old", "new", "result"] f fd) (T : Txt K mg) : FnOk P w K mg base CX0 1 f fd ["index", "old", "new", "result"] sp_choosing_rows := by
  refine F.fn.ok sc_choosing_rows (fun vs H Q E h => ?_) (fun cdv A outer s H vs Q E hr h => ?_)
  · obtain ⟨i, n, c, r, rfl, _⟩ := h
    rfl
  · obtain ⟨ix, old, new, res, rfl, k⟩ := h
    refine ⟨_, (pss_cons (ps_set (i := 4) sc_choosing_rows.nd rfl (Or.inl rfl) (pe_lst (pa_cons (pe_tup (pa_cons pe_str (pa_cons pe_int (pa_cons (pe_op op_add (pe_op op_add (pv 1) pe_int) (pv 0)) pa_nil)))) (pa_cons (pe_tup (pa_cons pe_str (pa_cons pe_int (pa_cons (pe_op op_add (pv 1) pe_int) pa_nil)))) pa_nil))))
      (pss_one (ps_ret (pe_lst (StX.pa_star (pv 4) (pa_cons (pe_tup (pa_cons pe_str (pa_cons pe_int (pa_cons pe_int (pa_cons pe_int (pa_cons (pv 3) pa_nil)))))) (pa_cons (pe_tup (pa_cons pe_str (pa_cons pe_int (pa_cons (pe_op op_add (pe_op op_add (pv 2) pe_int) (pv 0)) pa_nil)))) pa_nil))))))), ?_⟩
    refine sl_set (ds := ((chooseR ix old new res).take 2).map rowD) (el_lst (by walk_at "ed") (Nat.le_of_ble_eq_true rfl)) fun l vs H1 hl k1 e1 t1 => ?_
    refine sl_ret (ds := (chooseR ix old new res).map rowD) (el_lst (eds_starV rfl e1 t1 (by walk_at "ed")) (Nat.le_of_ble_eq_true rfl)) fun l2 vs2 H2 hl2 k2 e2 t2 => ?_
    exact k l2 vs2 H2 (k1.free hl2) (k1.trans k2) e2 t2
end
end Sr
/-! Rules: what is never reached; enumerate of a tuple. -/
namespace Sr
open PySem PySem.Spec PyProof.Rows L2
theorem pe_never {X : Cx} {e : Expr} : PE X e (fun _ _ _ => False) := ⟨fun _ _ _ _ _ _ h => h.elim⟩

set_option maxHeartbeats 1000000 in
theorem enum_newT (t : Addr) (items : Array Value) :
    Meets (Builtin.«enumerate.__new__» ⟨[.type "enumerate", .ref t], []⟩) (fun _ R s => s.heap.IsTuple t items ∧
      R (.ok (.ret (.ref (s.heap.push { cls := .type "tuple_iterator", data := .fields #[.ref t, .int 0 0] }).objs.size)))
        { s with heap := (s.heap.push { cls := .type "tuple_iterator", data := .fields #[.ref t, .int 0 0] }).push { cls := .type "enumerate", data := .fields #[.none, .bool false, .ref s.heap.objs.size, rawInt 0, .none, .none] } }) :=
  .of_wp fun prog w A R s hh => by
    obtain ⟨hp, g, d, tk, os⟩ := s
    obtain ⟨h1, hR⟩ := hh
    have hsub := sub_enumerate
    have q1 : ∀ {A' : Around} {E : Value → Shared → Prop} {Q : Value → Shared → Prop}, Q (.ref hp.objs.size) ⟨hp.push { cls := .type "tuple_iterator", data := .fields #[.ref t, .int 0 0] }, g, d, tk, os⟩ → wpAny (model prog w) A' (pyIter (.ref t)) Q E ⟨hp, g, d, tk, os⟩ :=
      fun q => (begins_tuple t items).iter prog w _ _ ⟨hp, g, d, tk, os⟩ _ h1 q
    wp_walk using q1
    refine wpAny_stack_any fun st => wpAny_pure ?_
    split
    · rename_i c _ _ _ _ _
      cases (c == Value.type "enumerate")
      · wp_walk using q1
        exact ⟨_, rfl, hR⟩
      · wp_walk using q1
        exact ⟨_, rfl, hR⟩
    · wp_walk using q1
      exact ⟨_, rfl, hR⟩
theorem call_enumT {prog : Program} {w : World} {A : Around} {E : Value → Shared → Prop} {s : Shared} {t : Addr} {items : Array Value} {Q : Value → Shared → Prop} (ht : s.heap.IsTuple t items)
    (hQ : ∀ h', IsEnum h' (s.heap.objs.size + 1) s.heap.objs.size 0 .none → h'.IsTupleIter s.heap.objs.size t 0 → h'.objs.size = s.heap.objs.size + 2 →
      (∀ b o, s.heap.get? b = some o → h'.get? b = some o) → Q (.ref (s.heap.objs.size + 1)) { s with heap := h' }) :
    wpAny (model prog w) A (call (.type "enumerate") [.ref t]) Q E s := by
  refine callType_new F.called_enumerate (by decide) (F.typeCall_enumerate_1 _) (F.newCall_enumerate_1 _) (fun obj => F.args_object_init_2 obj _) F.entry_enumerate_new (enum_newT t items) ⟨ht, ?_⟩
  have z1 : (s.heap.push { cls := .type "tuple_iterator", data := .fields #[.ref t, .int 0 0] }).objs.size = s.heap.objs.size + 1 := Heap.size_push _ _
  have e1 : IsEnum ((s.heap.push { cls := .type "tuple_iterator", data := .fields #[.ref t, .int 0 0] }).push { cls := .type "enumerate", data := .fields #[.none, .bool false, .ref s.heap.objs.size, rawInt 0, .none, .none] }) (s.heap.objs.size + 1) s.heap.objs.size 0 .none := by
    have y := Heap.get?_push_size (s.heap.push { cls := .type "tuple_iterator", data := .fields #[.ref t, .int 0 0] }) (o := { cls := .type "enumerate", data := .fields #[.none, .bool false, .ref s.heap.objs.size, rawInt 0, .none, .none] }) rfl
    rw [z1] at y
    exact y
  show _ ∧ _
  rw [z1]
  refine ⟨⟨_, e1, rfl⟩, hQ _ e1 ⟨_, Heap.get?_push_of_some _ (Heap.get?_push_size _ rfl), rfl, rfl⟩ ?_ fun b o q => Heap.get?_push_of_some _ (Heap.get?_push_of_some _ q)⟩
  rw [Heap.size_push, z1]
/-- the tuple at a, each item in a new pair with its number -/
def IteT (K : PySem.W.Frag) (a : Addr) : It :=
  ⟨fun i H => ∃ (xs : List V) (x : V), SqT K H a xs ∧ xs[i]? = some x, fun i H v H' => ∃ T x, v = .ref T ∧ H T = none ∧ H' = upd H T (.tup [.int (i : Nat), x]) ∧ ∀ xs, SqT K H a xs → xs[i]? = some x, fun i H => ∃ xs : List V, SqT K H a xs ∧ xs.length ≤ i⟩
theorem turn_enumT {P : Program} {w : World} {K : PySem.W.Frag} {elts : List Expr} {kk : Nat} {tpos : Pos} (a e it : Addr) :
    Turn P w K (.Tuple elts kk tpos) (IteT K a) [e, it] e (fun i h => (∃ old, IsEnum h e it ((i : Nat) : Int) old) ∧ h.IsTupleIter it a i ∧ e ≠ it ∧ a ≠ e ∧ a ≠ it) where
  mem := List.mem_cons_self
  obj := fun i h st b hb => by
    obtain ⟨⟨old, he⟩, ⟨o, ho, hc, hd⟩, _⟩ := st
    rcases List.mem_cons.mp hb with z | z
    · rw [z]; exact ⟨_, he, fun v q => nomatch q⟩
    · rw [List.mem_singleton.mp z]; exact ⟨o, ho, fun v q => by rw [hd] at q; cases q⟩
  keep := fun i h h' st k => by
    obtain ⟨⟨old, he⟩, hi, hne⟩ := st
    exact ⟨⟨old, k e List.mem_cons_self _ he⟩, hi.at fun o q => k it (List.mem_cons_of_mem _ List.mem_cons_self) o q, hne⟩
  item := by
    intro X hP hw hK hc i pins s σ H E I hf st hg
    subst hP hw hK
    obtain ⟨⟨old, he⟩, hit, hne, hae, hai⟩ := st
    obtain ⟨xs, x, hq, hx⟩ := hg
    obtain ⟨its, rv, p, hz⟩ := I.tuple hq
    obtain ⟨u, hu, ru⟩ := rv.get hx
    have hel : e < s.heap.objs.size := Heap.lt_size he
    have hil : it < s.heap.objs.size := let ⟨_, q, _⟩ := hit; Heap.lt_size q
    have hlt : i < its.toArray.size := by
      have q := (List.getElem?_eq_some_iff.mp hu).1
      simpa using q
    refine wpAny_pyNext_enum_itemD (Draws.tuple (prog := X.prog) (w := X.w) (A := X.A.in1) (I.ok.hd hc) it a hai its.toArray) he ⟨hit, p⟩ hlt hne (fun m => ?_) fun y h' tk hy ho hit' hT hsz hk => ?_
    · rcases List.mem_cons.mp m with z | z
      · exact hne z
      · exact hae (List.mem_singleton.mp z).symm
    have ey : y = u := by
      have q : its[i]? = some y := by simpa using hy
      rw [hu] at q
      exact (Option.some.inj q).symm
    subst ey
    refine ⟨_, rfl, wpAny_letOwnedTupleGo_enum (s := { s with heap := h', toks := tk + 1 }) ho fun h'' he' sb => ?_⟩
    have hT2 : h''.get? s.heap.objs.size = some { cls := .type "tuple", data := .seq #[.int i tk, y] } := (sb.2 _ (Nat.ne_of_gt hel)).trans hT
    have new : ObjOk X.prog X.w (upd H s.heap.objs.size (.tup [.int (i : Nat), x])) h'' s.heap.objs.size (.tup [.int (i : Nat), x]) :=
      ⟨by show 2 ≤ sizeLine; decide, [.int i tk, y], .cons ⟨_, rfl⟩ (.cons ru .nil), ⟨_, hT2, rfl, _, rfl⟩⟩
    have I1 : Inv X pins σ (upd H s.heap.objs.size (.tup [.int (i : Nat), x])) { s with heap := h'', toks := tk + 1 } :=
      I.turnedNew (ch := [e, it]) (fun b ob hb q => (sb.2 b (fun z => hb (by simp [z]))).trans (hk b ob (fun z => hb (by simp [z])) (fun z => hb (by simp [z])) q)) hf (Nat.le_refl _) new
    refine ⟨.ref s.heap.objs.size, _, I1, rfl, ⟨_, x, rfl, I.hok.fresh (Nat.le_refl _), rfl, fun ys hy2 => by rw [I.tuple_inj hy2 hq]; exact hx⟩, ⟨⟨y, ?_⟩, hit'.1.at fun o q => (sb.2 it (Ne.symm hne)).trans q, hne, hae, hai⟩, fun b hb => ?_⟩
    · have e1 : ((i + 1 : Nat) : Int) = (i : Int) + 1 := by omega
      rw [e1]; exact he'
    · have hb' : b < s.heap.objs.size := by
        rcases List.mem_cons.mp hb with z | z
        · rw [z]; exact hel
        · rw [List.mem_singleton.mp z]; exact hil
      rw [upd_ne (Nat.ne_of_lt hb')]
      exact (hf b hb).1
  done := by
    intro X hP hw hK hc i pins s σ H E I hf st hg
    subst hP hw hK
    obtain ⟨⟨old, he⟩, hit, hne, hae, hai⟩ := st
    obtain ⟨xs, hq, hx⟩ := hg
    obtain ⟨its, rv, p, hz⟩ := I.tuple hq
    obtain ⟨f0, f1, f2, f3, f4, f5⟩ := hf it (List.mem_cons_of_mem _ List.mem_cons_self)
    have hl := rv.length
    have hT : s.TypeIs (.ref e) "enumerate" := ⟨_, he, rfl⟩
    unfold pyNext
    refine wpAny_bind (wpAny_attempt (wpAny_callSpecial?_slot (name := Str.ofString "__next__") hT F.slot_enumerate_next (wpAny_call_entry F.slot_enumerate_next hT F.entry_enumerate_next ?_ (F.args_enumerate_next_1 _))))
    show wpAny _ _ (field (.ref e) 2 >>= _) _ _ _
    refine wpAny_bind (wpAny_field he rfl (x := .ref it) rfl ?_)
    refine wpAny_bind (wpAny_nextOf_tuple_end (A := X.A.in1) (I.ok.hd hc) hit p (by simp; omega) fun h' xx he' hx' => ?_)
    obtain ⟨o, ho, hco⟩ := hx'
    refine wpAny_bind (wpAny_isInstance (T := "StopIteration") (b := true) ⟨o, ho, hco⟩ isSubtype_stop ?_)
    exact wpAny_pure ⟨rfl, I.turned (t' := s.toks) (fun b o hb q => he' b o hb q) f0 f1 f3 f4 f5⟩
  self := fun A i s Q E st h => let ⟨⟨_, he⟩, _⟩ := st; wpAny_pyIter_enum he h
def iEnumT (K : PySem.W.Frag) (ta : TA) : TI := fun σ H R => ta σ H fun vs H1 => ∃ a xs, vs = [.ref a] ∧ SqT K H1 a xs ∧ R (IteT K a) H1
theorem pi_enumT {X : Cx} {e : Expr} {ta : TA} {p pos tpos : Pos} {elts : List Expr} {kk : Nat} (hg : Gl X "enumerate") (hm : X.mg "enumerate" = none) (ha : PA X [e] ta) (hs : starEach [e] X.env = [(false, eval e X.env)] := by rfl) :
    PI X (.Tuple elts kk tpos) (.Call (.Name "enumerate" p) [e] [] pos) (iEnumT X.K ta) := by
  refine ⟨fun pins s σ H R I h => ?_⟩
  refine Call_ (ld_blt I hg hm boot_enumerate (PyProof.Rows.callWith_type1 (thn (ha.run pos pins s σ H _ I h) fun us s1 ⟨vs, H1, I1, r1, q1⟩ => ?_) hs rfl))
  obtain ⟨a, xs, ex, hq, q⟩ := q1
  subst ex
  cases r1 with
  | cons r rr =>
    cases rr
    cases r
    obtain ⟨its, rv, p', hz⟩ := I1.tuple hq
    have hal : a < s1.heap.objs.size := p'.lt
    refine call_enumT p' fun h' he hit hsz hk => wpAny_pyIter_enum he ?_
    have I2 : Inv X pins σ H1 { s1 with heap := h' } := I1.kept (t' := s1.toks) hk
    refine ⟨s1.heap.objs.size + 1, [s1.heap.objs.size + 1, s1.heap.objs.size], _, _, H1, rfl, I2, turn_enumT a (s1.heap.objs.size + 1) s1.heap.objs.size, ⟨⟨.none, he⟩, hit, Nat.succ_ne_self _, Nat.ne_of_lt (Nat.lt_succ_of_lt hal), Nat.ne_of_lt hal⟩, fun b hb => ?_, q⟩
    have hle : s1.heap.objs.size ≤ b := by
      rcases List.mem_cons.mp hb with z | z
      · rw [z]; exact Nat.le_add_right _ _
      · rw [List.mem_singleton.mp z]; exact Nat.le_refl _
    exact I1.fpOk hle (I1.hok.fresh hle)
theorem walk_enumT {K : PySem.W.Frag} {a : Addr} {xs : List V} : Walk (IteT K a) xs.length (fun H => SqT K H a xs) (YPair (fun i => some (.int (i : Nat))) (fun i => xs[i]?)) := by
  refine ⟨fun i _ hi q => ⟨xs, xs[i], q, by simp [hi]⟩, fun _ q => ⟨xs, q, Nat.le_refl _⟩, fun i H v H' _ q y => ?_⟩
  obtain ⟨T, x, h1, h2, h3, h4⟩ := y
  exact ⟨T, .int (i : Nat), x, h1, h2, h3, rfl, h4 xs q⟩
end Sr
/-! Rules: a, b, *c = a tuple, a list. -/
namespace Sr
open PySem PySem.Spec PyProof.Rows L2
section
variable {X : Cx} {pins : List (Addr × Obj)} {σ : L2.St} {H : Hp} {s : Shared}
theorem nsOnly {h : Heap} {L : Addr} {m m' : Str → Option Value} (x : h.Ns L m) (y : h.Ns L m') : m = m' :=
  match x, y with
  | ⟨o, es, ep, e, d, k, f⟩, ⟨o', es', ep', e', d', k', f'⟩ => by
    cases e.symm.trans e'
    cases d.symm.trans d'
    exact funext fun z => (f z).symm.trans (f' z)
theorem objThere {P : Program} {w : World} {H : Hp} {h : Heap} {a : Addr} {o : HO} (x : ObjOk P w H h a o) : ∃ ob, h.get? a = some ob := by
  cases o with
  | lst xs => exact let ⟨_, _, _, _, e⟩ := x; ⟨_, e⟩
  | tup xs => exact let ⟨_, _, _, ob, e, _⟩ := x; ⟨ob, e⟩
  | dK kvs => exact let ⟨_, _, _, _, o, _, _, e, _⟩ := x; ⟨o, e⟩
  | dT kvs => exact let ⟨_, _, _, _, o, _, _, e, _⟩ := x; ⟨o, e⟩
  | set S n => exact let ⟨o, _, _, _, e, _⟩ := x; ⟨o, e⟩
  | ins C dx fs => exact let ⟨_, _, _, e, _⟩ := x; ⟨_, e⟩
  | own y => exact x
  | xd fs => exact let ⟨_, ⟨o, _, _, e, _⟩, _⟩ := x; ⟨o, e⟩
  | rng lo hi => exact let ⟨_, _, _, e⟩ := x; ⟨_, e⟩
  | frz ob u => exact ⟨ob, x.1⟩
  | tbl ps => exact ⟨_, x⟩
  | met f y => exact ⟨_, x⟩
  | ext φ => exact x.2.1
/-- behind a rule of the frames that laid one new list -/
theorem Inv.laidF {m : Str → Option Value} {h' : Heap} {tk : Nat} {D : Addr} {its : List Value} {ys : List V} (I : Inv X pins σ H s) (F : Fr X.base X.env.locals s.heap m) (F' : Fr X.base X.env.locals h' m)
    (N' : News X.base X.env.locals h' ((D, PySem.W.listOf its.toArray 0) :: allNews X.base s.heap X.env.locals)) (hlt : ∀ p ∈ allNews X.base s.heap X.env.locals, p.1 < D) (r : Vals ys its) (hz : ys.length ≤ sizeLine) :
    H D = none ∧ Inv X pins σ (upd H D (.lst ys)) { s with heap := h', toks := tk } := by
  have hD := N' _ List.mem_cons_self
  have k : ∀ b o, b ≠ X.env.locals → s.heap.get? b = some o → h'.get? b = some o := fun b o h1 e => by
    cases q : X.base.get? b with
    | some u =>
      have := I.bk b u q
      rw [e] at this; cases this
      exact F'.keep b _ q
    | none => exact (N' (b, o) (List.mem_cons_of_mem _ (mem_allNews h1 q e))).1
  have ne : ∀ b o, s.heap.get? b = some o → b ≠ D := fun b o e z => by
    subst z
    cases q : X.base.get? b with
    | some u => rw [hD.2.2] at q; cases q
    | none => exact absurd (hlt (b, o) (mem_allNews hD.2.1 q e)) (Nat.lt_irrefl _)
  have net : ∀ b u, H b = some u → b ≠ D := fun b u e => by
    obtain ⟨o, ho⟩ := objThere (I.hok b u e)
    exact ne b o ho
  have hn : H D = none := by
    cases q : H D with
    | none => rfl
    | some u => exact absurd rfl (net D u q)
  have new : ObjOk X.prog X.w (upd H D (.lst ys)) h' D (.lst ys) := ⟨hz, its, 0, r, hD.1⟩
  have thereL : ∃ o', h'.get? X.env.locals = some o' := by
    obtain ⟨o, _, _, ho, _⟩ := F'.ns
    exact ⟨o, ho⟩
  refine ⟨hn, I.step (g' := s.gens) (d' := s.drawn) (ch := []) (fun _ z => nomatch z) (fun b o h1 _ _ e _ => k b o h1 e) (fun b o h1 _ _ e _ => ⟨o.slots, k b o h1 e⟩) (fun b o _ e n => by rw [upd_ne (ne b o e)]; exact n)
    (fun b o _ e => ?_) (fun b xs e => by rw [upd_ne (net b _ e)]; exact e) (fun b o u e => by rw [upd_ne (net b _ e)]; exact e) (fun b ps e => ⟨#[], by rw [upd_ne (net b _ e), e]; simp⟩) (fun m' hm => ?_) (fun b u e => ?_) I.bare⟩
  · by_cases hb : b = X.env.locals
    · rw [hb]; exact thereL
    · exact ⟨o, k b o hb e⟩
  · rw [nsOnly hm F.ns]
    exact F'.ns
  · by_cases hb : b = D
    · subst hb
      rw [upd_same] at e; cases e
      exact new
    · rw [upd_ne hb] at e
      refine (I.hok b u e).stay (fun c v hc q => k c v ?_ q) (fun c q => by rw [upd_ne (net c _ q)]; exact q) fun c xs q => by rw [upd_ne (net c _ q)]; exact q
      rcases hc with z | z
      · intro y
        rw [← z, y, I.free] at e
        cases e
      · intro y
        rw [y, I.free] at z
        cases z
end
section
variable {X : Cx} {pos : Pos}
/-- a, b, *c = e : n names, then a new list of the rest -/
def gStar (K : PySem.W.Frag) (n : Nat) (t : TGs) : TG := fun v σ H Q => ∃ a xs, v = .ref a ∧ (SqT K H a xs ∨ SqL K H a xs) ∧ n ≤ xs.length ∧ xs.length ≤ 16384 ∧ ∀ D, H D = none → t (xs.take n ++ [.ref D]) σ (upd H D (.lst (xs.drop n))) Q
theorem pg_star {es : List Expr} {k : Nat} {t : TGs} {n : Nat} (hc : X.calm = true) (h : PGs X es t)
    (hn : (assignEach es X.env).length = n + 1 := by rfl) (hst : (assignEach es X.env).findIdx? (·.1) = some n := by rfl) : PG X (.Tuple es k pos) (gStar X.K n t) := by
  refine ⟨fun pins s σ H v u Q I r hw => ?_⟩
  obtain ⟨a, xs, e1, hq, hl, hz, hw⟩ := hw
  subst e1
  cases r
  obtain ⟨m, F⟩ := I.fr
  have fin : ∀ (its : List Value), Vals xs its → ∀ D h' tk, Fr X.base X.env.locals h' m → News X.base X.env.locals h' ((D, PySem.W.listOf (its.drop n).toArray 0) :: allNews X.base s.heap X.env.locals) → (∀ p ∈ allNews X.base s.heap X.env.locals, p.1 < D) →
      wpAny (model X.prog X.w) X.A (assignInOrder ((assignEach es X.env).map (·.2)) (its.take n ++ [.ref D] ++ [])) (fun _ s' => ∃ σ' H', Inv X pins σ' H' s' ∧ Q σ' H') X.xe { s with heap := h', toks := tk } := by
    intro its rv D h' tk F' N' hlt
    obtain ⟨hD, I1⟩ := Inv.laidF (tk := tk) I F F' N' hlt (rv.drop n) (by rw [List.length_drop]; exact le_line (by omega))
    rw [List.append_nil]
    exact h.run pins _ σ _ _ _ Q I1 ((rv.take n).append (.cons (show RelV (.ref D) (.ref D) from rfl) .nil)) (hw D hD)
  rcases hq with hq | hq
  · obtain ⟨its, rv, ht, _⟩ := I.tuple hq
    have e1 := rv.length
    refine PySem.W.kun_assignT (n := n + 1) (i := n) (first := its.take n) (mids := its.drop n) (lasts := []) F news_all ht (I.ok.hd hc) hn hst (Nat.lt_succ_self n) (by simp; omega) (by simp; omega) (by simp) ?_ ?_ (fin its rv)
    · rw [show its.toArray.size + 1 - (n + 1) = its.length - n by simp]
      exact List.take_of_length_le (by simp)
    · rw [show its.toArray.size + 1 - (n + 1) = its.length - n by simp]
      exact List.drop_of_length_le (by simp)
  · obtain ⟨its, rv, hp, _⟩ := I.list hq
    have e1 := rv.length
    refine PySem.W.kun_assignL (n := n + 1) (i := n) (first := its.take n) (mids := its.drop n) (lasts := []) F news_all hp.isList (I.ok.hd hc) hn hst (Nat.lt_succ_self n) (by simp; omega) (by simp; omega) (by simp) ?_ ?_ (fin its rv)
    · rw [show its.toArray.size + 1 - (n + 1) = its.length - n by simp]
      exact List.take_of_length_le (by simp)
    · rw [show its.toArray.size + 1 - (n + 1) = its.length - n by simp]
      exact List.drop_of_length_le (by simp)
theorem pgs_star {e : Expr} {t : TG} {p : Pos} (h1 : PG X e t)
    (hs : (assignEach [.Starred e p] X.env).map (·.2) = [assign e X.env] := by rfl) : PGs X [.Starred e p] (gCons t gNil) := by
  refine ⟨fun pins s σ H vs us Q I r h => ?_⟩
  obtain ⟨v, vr, e1, h⟩ := h
  subst e1
  cases r with
  | cons r rr =>
    rw [hs]
    refine assignInOrder_cons (thn (h1.run pins s σ H _ _ _ I r h) fun _ s1 ⟨σ1, H1, I1, q1⟩ => ?_)
    exact pgs_nil.run pins s1 σ1 H1 _ _ Q I1 rr q1
end
end Sr
/-! Walks and comprehensions over data. -/
namespace Sr
open PySem PySem.Spec PyProof.Rows L2

/-- a walked thing: n turns as Y tells, while what stands at Z is not changed -/
def EvI (wi : TI) (σ : L2.St) (H : Hp) (n : Nat) (Z : List Addr) (Y : Nat → Hp → V → Hp → Prop) : Prop := ∀ H1, Kp [] H H1 → ∀ R : It → Hp → Prop,
  (∀ (J : It) (H2 : Hp) (G : Hp → Prop), Kp [] H1 H2 → Walk J n G Y → (∀ S H3, Kp S H2 H3 → (∀ b ∈ Z, b ∉ S) → G H3) → R J H2) → wi σ H1 R
section
variable {K : PySem.W.Frag} {σ : L2.St} {H H' : Hp} {ta tb te : TE} {t : TA} {i j n : Nat} {v u : V} {d : PyData} {ds es : List PyData} {x y : Int} {a l : Addr} {xs us : List V} {wi : TI} {Z : List Addr} {Y : Nat → Hp → V → Hp → Prop} {D : Ends} {tb' : TS} {g : TG}
theorem ei_tup (ha : EvV ta σ H (.ref a)) (h : H a = some (.tup xs)) : EvI (iTup K ta) σ H xs.length [] (YAt xs) := fun H1 k R q =>
  ha H1 k _ fun H2 k2 => ⟨a, rfl, ⟨xs, SqT.of ((k.trans k2).get h)⟩, q _ H2 _ k2 walk_tup fun S H3 k3 _ => SqT.of (k3.tup a xs ((k.trans k2).get h))⟩
theorem ei_tupN (ha : ∀ H1, Kp [] H H1 → ∀ Q : VK, (∀ p, H1 p = none → Q (.ref p) (upd H1 p (.tup xs))) → ta σ H1 Q) : EvI (iTup K ta) σ H xs.length [] (YAt xs) := fun H1 k R q =>
  ha H1 k _ fun p hp => ⟨p, rfl, ⟨xs, SqT.of upd_same⟩, q _ _ _ (Kp.new hp) (walk_tup (K := K) (a := p) (xs := xs)) fun S H3 k3 _ => SqT.of (k3.tup p xs upd_same)⟩
theorem ei_list (ha : EvV ta σ H (.ref a)) (h : H a = some (.lst xs)) : EvI (iList K ta) σ H xs.length [a] (YAt xs) := fun H1 k R q =>
  ha H1 k _ fun H2 k2 => ⟨a, rfl, ⟨xs, SqL.of ((k.trans k2).get h)⟩, q _ H2 _ k2 walk_list fun S H3 k3 z => SqL.of (k3.oth a _ (z a (List.mem_singleton.mpr rfl)) ((k.trans k2).get h))⟩
theorem ei_enumT (ha : EvV ta σ H (.ref a)) (h : H a = some (.tup xs)) : EvI (iEnumT K (tCons ta tNil)) σ H xs.length [] (YPair (fun i => some (.int (i : Nat))) (fun i => xs[i]?)) := fun H1 k R q =>
  ha H1 k _ fun H2 k2 => ⟨a, xs, rfl, SqT.of ((k.trans k2).get h), q _ H2 _ k2 walk_enumT fun S H3 k3 _ => SqT.of (k3.tup a xs ((k.trans k2).get h))⟩
theorem ei_range (ha : EvD ta σ H (.int x)) (hn : x = (n : Int)) (hb : n ≤ 1000000) : EvI (iRng1 (tCons ta tNil)) σ H n [] (YFn fun i => .int (0 + i)) := fun H1 k R q =>
  ev_i ha H1 k _ fun H2 k2 => ⟨x, rfl, by omega, by omega, by
    have e : x.toNat = n := by omega
    rw [e]
    exact q _ H2 _ k2 walk_range fun _ _ _ _ => trivial⟩
/-- a for over it: Pv for the heap behind the making of the iterator -/
theorem st_for (hi : EvI wi σ H n Z Y) (h : ∀ H2, Kp [] H H2 → ∃ Pv : Nat → L2.St → Hp → Prop, Pv 0 σ H2 ∧ (∀ i σ' H', Pv i σ' H' → ∃ S, Kp S H2 H' ∧ ∀ b ∈ Z, b ∉ S) ∧
      (∀ i x σ' H1 H1', i < n → Pv i σ' H1 → Y i H1 x H1' → g x σ' H1' fun σ2 H3 => tb' { D with nx := Pv (i + 1), ct := Pv (i + 1), bk := D.nx } σ2 H3) ∧ ∀ σ' H', Pv n σ' H' → D.nx σ' H') : tFor wi g tb' D σ H := hi H (Kp.refl _ _) _ fun J H2 G k2 w hG => by
  obtain ⟨Pv, h0, hS, hs, hd⟩ := h H2 k2
  exact for_it w Pv h0 (fun i σ' H' _ p => let ⟨S, k, z⟩ := hS i σ' H' p; hG S H' k z) hs hd
/-- a comprehension; R: what is true of the i-th item, whatever is done to the list at D -/
theorem el_lcG {R : Addr → Nat → V → Hp → Prop} {f : Nat → V} {vs : List Nat} {Q : VK} {H1 : Hp} (hi : EvI wi σ H n Z Y) (hY : ∀ i H x H', Y i H x H' → H' = H ∧ x = f i) (hn : n ≤ 100000) (hw : ∀ x, wipe ((wipe σ vs).set j (some x)) vs = wipe σ vs)
    (st : ∀ D i v H1 H2, R D i v H1 → Kp [D] H1 H2 → R D i v H2)
    (he : ∀ D H1, Kp [] H H1 → H D = none → (∃ o, H1 D = some o) → ∀ i, i < n → ∀ Q : VK, (∀ v H2, Kp [] H1 H2 → R D i v H2 → Q v H2) → te ((wipe σ vs).set j (some (f i))) H1 Q)
    (k1 : Kp [] H H1) (q : ∀ D us H2, H1 D = none → Kp [] H1 H2 → H2 D = some (.lst us) → us.length = n → (∀ i v, us[i]? = some v → R D i v H2) → Q (.ref D) H2) : tLc wi (gName j) tYes te vs σ H1 Q := hi H1 k1 _ fun J H2 G k2 w hG D hD => by
  have hD0 : H D = none := (k1.trans k2).free hD
  refine lc_it w (fun i H' => ∃ us, Kp [] H2 H' ∧ H' D = some (.lst us) ∧ us.length = i ∧ ∀ m v, us[m]? = some v → R D m v H') ⟨[], Kp.new hD, upd_same, rfl, fun m v e => by simp at e⟩ (fun i H' _ ⟨us, k, _⟩ => hG [] H' k fun _ _ z => nomatch z) (fun i x H' H'' hi' ⟨us, k, e, hl, hr⟩ y => ?_) fun H' ⟨us, k, e, hl, hr⟩ => q D us H' (k2.free hD) (k2.trans k) e hl hr
  obtain ⟨z1, z2⟩ := hY i H' x H'' y
  subst z1 z2
  refine ⟨hw _, ?_⟩
  show te ((wipe σ vs).set j (some (f i))) H'' _
  refine he D H'' ((k1.trans k2).trans k) hD0 ⟨_, e⟩ i hi' _ fun v H4 k4 r4 => ?_
  have e4 := k4.get e
  have k5 : Kp [D] H4 (upd H4 D (.lst (us ++ [v]))) := Kp.put (List.mem_singleton.mpr rfl) e4 fun xs z => HO.noConfusion z
  refine ⟨us, e4, lt_line (by omega), us ++ [v], (k.trans k4).chg hD, upd_same, by simp [hl], fun m u em => ?_⟩
  rcases Nat.lt_or_ge m us.length with hm | hm
  · rw [List.getElem?_append_left hm] at em
    exact st D m u _ _ (hr m u em) (k4.wid.trans k5)
  · rw [List.getElem?_append_right hm] at em
    have e0 : m - us.length = 0 := by
      rcases Nat.eq_zero_or_pos (m - us.length) with z | z
      · exact z
      · rw [List.getElem?_eq_none (by simp; omega)] at em; cases em
    rw [e0] at em
    cases em
    have : m = i := by omega
    subst this
    exact st D m v _ _ r4 k5
theorem TDs.ofAll : ∀ {vs : List V} {ds : List PyData}, vs.length = ds.length → (∀ (i : Nat) (v : V), vs[i]? = some v → ∃ d, ds[i]? = some d ∧ TD H v d) → TDs H vs ds
  | [], [], _, _ => .nil
  | v :: vs, d :: ds, hl, h => by
    obtain ⟨e, h1, h2⟩ := h 0 v rfl
    cases h1
    exact .cons h2 (TDs.ofAll (by simpa using hl) fun i u e => by simpa using h (i + 1) u (by simpa using e))
/-- a comprehension whose items are data -/
theorem yat {xs : List V} : ∀ (i : Nat) (H : Hp) (x : V) (H' : Hp), YAt xs i H x H' → H' = H ∧ x = (xs[i]?).getD .non := fun i H x H' y => ⟨y.1, by rw [y.2]; rfl⟩
theorem yfn {f : Nat → V} : ∀ (i : Nat) (H : Hp) (x : V) (H' : Hp), YFn f i H x H' → H' = H ∧ x = f i := fun i H x H' y => y
theorem el_lc {f : Nat → V} {vs : List Nat} (hi : EvI wi σ H n Z Y) (hl : ds.length = n) (hY : ∀ i H x H', Y i H x H' → H' = H ∧ x = f i) (hn : n ≤ 100000) (hw : ∀ x, wipe ((wipe σ vs).set j (some x)) vs = wipe σ vs) 
    (he : ∀ i d, ds[i]? = some d → EvD te ((wipe σ vs).set j (some (f i))) H d) : EvL (tLc wi (gName j) tYes te vs) σ H ds := fun H1 k1 Q q =>
  el_lcG (R := fun _ i v H' => ∃ d, ds[i]? = some d ∧ TD H' v d) hi hY hn hw (fun D i v H1 H2 ⟨d, e, t⟩ k => ⟨d, e, t.kp k⟩)
    (fun D H1 k _ _ i hi' Q q => by
      obtain ⟨d, hd⟩ : ∃ d, ds[i]? = some d := ⟨_, List.getElem?_eq_getElem (by omega)⟩
      exact he i d hd H1 k Q fun v H2 k2 t => q v H2 k2 ⟨d, hd, t⟩) k1 fun D us H2 hD k2 e hl' hr => q D us H2 hD k2 e (TDs.ofAll (hl'.trans hl.symm) hr)
end
end Sr
/-! Recipes that are right. -/
namespace Sr
open PySem PySem.Spec PyProof.Rows L2
local macro_rules | `(tactic| walk_at "ed") => `(tactic| repeat' (first | exact eds_nil | refine eds_cons ?_ ?_ | refine ed_tup ?_ | exact ed_i | exact ed_s | exact ed_var rfl (TD.int _) | exact ed_var rfl (TD.str _) | exact ed_var rfl (by assumption) | refine ed_add ?_ ?_ | refine ed_sub ?_ ?_))
def tgt (r : Row) : Int := r.2.getD 0 0
def GoodRow (n : Int) (ks : List Int) (r : Row) : Prop :=
  (∃ t w, r = ro "set" [t, w] ∧ (0 ≤ t ∧ t < 24) ∧ 0 ≤ w ∧ w ≤ 999999) ∨ (∃ t i, r = ro "load" [t, i] ∧ (0 ≤ t ∧ t < 24) ∧ 0 ≤ i ∧ i < n) ∨
    ∃ z t ss, r = ro z (t :: ss) ∧ (0 ≤ t ∧ t < 24) ∧ (z = "choose" ∨ z ∈ opL) ∧ (ss.length : Int) = manyS z ∧ ∀ s ∈ ss, (0 ≤ s ∧ s < 24) ∧ s ∈ ks
def KnD (H : Hp) (kd : Addr) (ks : List Int) : Prop := ∃ kvs, H kd = some (.dK kvs) ∧ kvs.length ≤ ks.length ∧ ∀ k ∈ ks, (valV kvs (Sum.inl k)).isSome = true
theorem KnD.kp {H H' : Hp} {kd : Addr} {ks : List Int} (h : KnD H kd ks) (k : Kp [] H H') : KnD H' kd ks := let ⟨kvs, e, r⟩ := h; ⟨kvs, k.get e, r⟩
theorem inR_yes {a i b : Int} (h : a ≤ i ∧ i < b) : inR a i b = true := by unfold inR; simp [h]
theorem isWord_yes {i : Int} (h : 0 ≤ i ∧ i ≤ 999999) : isWord i = true := by unfold isWord; simp [h]
section
variable {σ : L2.St} {H : Hp} {te : TE} {t : TA} {i b : Int} {d : PyData}
/-- calls of the little defs -/
theorem ed_is_register {E : XK} (ha : EvD te σ H (.int i)) : EvD (tCall sp_is_register [] E (tCons te tNil)) σ H (.bool (inR 0 i 24)) := fun H1 k Q q =>
  ev_i ha H1 k _ fun H2 k2 => ⟨i, rfl, q _ H2 k2 (.bl _)⟩
theorem ed_is_word {E : XK} (ha : EvD te σ H (.int i)) : EvD (tCall sp_is_word [] E (tCons te tNil)) σ H (.bool (isWord i)) := fun H1 k Q q =>
  ev_i ha H1 k _ fun H2 k2 => ⟨i, rfl, q _ H2 k2 (.bl _)⟩
theorem ed_is_number_below {E : XK} {tb : TE} (ha : EvD te σ H (.int i)) (hb : EvD tb σ H (.int b)) : EvD (tCall sp_is_number_below [] E (tCons te (tCons tb tNil))) σ H (.bool (inR 0 i b)) := fun H1 k Q q =>
  ev_i ha H1 k _ fun H2 k2 => ev_i hb H2 (k.trans k2) _ fun H3 k3 => ⟨i, b, rfl, q _ H3 (k2.trans k3) (.bl _)⟩
theorem ed_is_number {E : XK} {tb tc : TE} {c : Int} (ha : EvD te σ H (.int i)) (hb : EvD tb σ H (.int b)) (hc : EvD tc σ H (.int c)) : EvD (tCall sp_is_number [] E (tCons te (tCons tb (tCons tc tNil)))) σ H (.bool (inC b i c)) := fun H1 k Q q =>
  ev_i ha H1 k _ fun H2 k2 => ev_i hb H2 (k.trans k2) _ fun H3 k3 => ev_i hc H3 ((k.trans k2).trans k3) _ fun H4 k4 => ⟨i, b, c, rfl, q _ H4 ((k2.trans k3).trans k4) (.bl _)⟩
theorem ed_many_sources {E : XK} {z : Str} (ha : EvD te σ H (.str z)) (hz : z = "set" ∨ z = "load" ∨ z = "choose" ∨ z ∈ opL) : EvD (tCall sp_many_sources [] E (tCons te tNil)) σ H (.int (manyS z)) := fun H1 k Q q =>
  ev_s ha H1 k _ fun H2 k2 => ⟨z, hz, rfl, fun H' k' => q _ H' (k2.trans k') (.int _)⟩
/-- x in (a, b) of words -/
theorem et_in2 {K : PySem.W.Frag} {z a c : Str} {r : R2} (hr : r = fun x y H Q => ∃ p ys, y = .ref p ∧ (SqL K H p ys ∨ SqT K H p ys) ∧ flatV x = true ∧ ys.all flatV = true ∧ Q (.bl (if false = true then !inV x ys else inV x ys)) H) (ha : EvD te σ H (.str z)) :
    EvT (tTest (tOp r te (tTup (tCons (tC (.str a)) (tCons (tC (.str c)) tNil))))) σ H (decide (z = a ∨ z = c)) := fun H1 k Q q => by
  subst hr
  refine ev_s ha H1 k _ fun H2 k2 => ⟨(by show 2 ≤ sizeLine; decide), fun p hp => ?_⟩
  have k1 : Kp [] H2 (upd H2 p (.tup [.str a, .str c])) := Kp.new hp
  have e1 : inV (.str z) [.str a, .str c] = decide (z = a ∨ z = c) := (inV_strs z [a, c]).trans (by simp)
  refine ⟨p, _, rfl, .inr (SqT.of upd_same), rfl, flat_strs [a, c], _, rfl, ?_⟩
  show Q (if false = true then !inV (.str z) [.str a, .str c] else inV (.str z) [.str a, .str c]) _
  rw [if_neg Bool.false_ne_true, e1]
  exact q _ (k2.trans k1)
/-- k in known -/
theorem ed_known {tb : TE} {kd : Addr} {ks : List Int} (ha : EvD te σ H (.int i)) (hb : EvV tb σ H (.ref kd)) (h : KnD H kd ks) (hi : i ∈ ks) : EvD (tDIn te tb) σ H (.bool true) := fun H1 k Q q =>
  ev_i ha H1 k _ fun H2 k2 => hb H2 (k.trans k2) _ fun H3 k3 => by
    obtain ⟨kvs, e, _, hk⟩ := h.kp ((k.trans k2).trans k3)
    exact ⟨kd, _, rfl, DGet.k (k := Sum.inl i) e, q _ H3 (k2.trans k3) (by rw [hk i hi]; exact .bl true)⟩
theorem all_trues (n : Nat) : (List.replicate n true).all id = true := by simp
/-- all of a list of Trues -/
theorem ed_allT {K : PySem.W.Frag} {n : Nat} (ha : EvL te σ H (List.replicate n (.bool true))) : EvD (tCB (rAll K) (tCons te tNil)) σ H (.bool true) := fun H1 k Q q =>
  ha H1 k _ fun l vs H2 hl k2 e2 t2 => by
    have e : vs = (List.replicate n true).map V.bl := by
      have : ∀ (n : Nat) (vs : List V), TDs H2 vs (List.replicate n (.bool true)) → vs = (List.replicate n true).map V.bl := by
        intro n
        induction n with
        | zero => intro vs t; cases t; rfl
        | succ n ih => intro vs t; cases t with | cons a r => cases a; rw [ih _ r]; rfl
      exact this n vs t2
    subst e
    exact ⟨l, List.replicate n true, rfl, SqL.of e2, by rw [all_trues]; exact q _ H2 k2 (.bl true)⟩
end
section
variable {P : Program} {w : World} {K : PySem.W.Frag} {mg : Str → Option Value} {base : Heap} {f : Addr} {fd : FuncData}
abbrev s_is_recipe_row : Stmt := top 25
theorem sc_is_recipe_row : FnScope ["thing", "size", "known", "word", "goal", "others", "one"] ["thing", "size", "known"] (defScope s_is_recipe_row) := ⟨rfl, rfl, rfl, by decide +kernel, rfl, by decide +kernel, by decide +kernel⟩
def sp_is_recipe_row : Sp := fun vs H Q _ => ∃ (v : V) (n : Int) (kd : Addr) (ks : List Int) (r : Row), vs = [v, .int n, .ref kd] ∧ TD H v (rowD r) ∧ KnD H kd ks ∧ GoodRow n ks r ∧ ∀ H', Kp [] H H' → Q (.bl true) H'
theorem ok_is_recipe_row (F : At K mg "is_recipe_row" "is_recipe_row" s_is_recipe_row ["thing", "size", "known"] f fd) (T : Txt K mg) (g_is_register : GF P w K mg base 3 "is_register" ["thing"] sp_is_register) (g_is_word : GF P w K mg base 2 "is_word" ["thing"] sp_is_word)
    (g_is_number_below : GF P w K mg base 2 "is_number_below" ["thing", "bound"] sp_is_number_below) (g_many_sources : GF P w K mg base 1 "many_sources" ["word"] sp_many_sources) : FnOk P w K mg base CX0 4 f fd ["thing", "size", "known"] sp_is_recipe_row := by
  refine F.fn.ok sc_is_recipe_row (fun vs H Q E h => ?_) (fun cdv A outer s H vs Q E hr h => ?_)
  · obtain ⟨v, n, kd, ks, r, rfl, _⟩ := h
    rfl
  · obtain ⟨v, n, kd, ks, r, rfl, hv, hk, hg, k⟩ := h
    refine ⟨_, (pss_cons (ps_if (PW.pt (pw_or (pt_not (pt_val (pe_callB call_isi rfl T.f_isinstance (by decide +kernel) (pa_cons (pv 0) (pa_cons (pe_bltn (v := .ty "tuple") (u := .type "tuple") rfl T.f_tuple (by decide +kernel) rfl) pa_nil))))) (pw_or (pt_cmpR op_lt (pe_callB (r := rLen K) call_len_seq rfl T.f_len PySem.boot_len (pa_cons (pv 0) pa_nil)) pe_int (nomark _)) (pw_or (pt_not (pt_val (pe_callB call_isi rfl T.f_isinstance (by decide +kernel) (pa_cons (pe_ix (r := rIxT K) ix_tup (pv 0) pe_int (fun _ _ => rfl)) (pa_cons (pe_bltn (v := .ty "str") (u := .type "str") rfl T.f_str (by decide +kernel) rfl) pa_nil))))) (pw_or1 (pt_not (pt_val (pe_gf g_is_register (hr.mono (by decide)) rfl (pa_cons (pe_ix (r := rIxT K) ix_tup (pv 0) pe_int (fun _ _ => rfl)) pa_nil))))))))) (pss_one (ps_ret pe_bl)) pss_nil)
      (pss_cons (ps_asg (pv 0) (pg_star (n := 2) rfl (pgs_cons (pg_name (i := 3) sc_is_recipe_row.nd rfl (Or.inl rfl)) (pgs_cons (pg_name (i := 4) sc_is_recipe_row.nd rfl (Or.inl rfl)) (pgs_star (pg_name (i := 5) sc_is_recipe_row.nd rfl (Or.inl rfl)))))))
      (pss_cons (ps_if (pt_cmpR op_in_seq (pv 3) (pe_tup (pa_cons (pe_gs T.c_SET rfl) (pa_cons (pe_gs T.c_LOAD rfl) pa_nil))) (by rfl)) (pss_cons (ps_if (pt_cmpR op_ne (pe_callB (r := rLen K) call_len_seq rfl T.f_len PySem.boot_len (pa_cons (pv 5) pa_nil)) pe_int (nomark _)) (pss_one (ps_ret pe_bl)) pss_nil)
      (pss_one (ps_ret (pe_ifExp (pt_cmpR op_eq (pv 3) (pe_gs T.c_SET rfl) (nomark _)) (pe_gf g_is_word (hr.mono (by decide)) rfl (pa_cons (pe_ix (r := rIxL K) ix_list (pv 5) pe_int (fun _ _ => rfl)) pa_nil)) (pe_gf g_is_number_below (hr.mono (by decide)) rfl (pa_cons (pe_ix (r := rIxL K) ix_list (pv 5) pe_int (fun _ _ => rfl)) (pa_cons (pv 1) pa_nil))))))) pss_nil)
      (pss_one (ps_ret (pe_and (pe_cmpR op_eq (pe_callB (r := rLen K) call_len_seq rfl T.f_len PySem.boot_len (pa_cons (pv 5) pa_nil)) (pe_gf g_many_sources (hr.mono (by decide)) rfl (pa_cons (pv 3) pa_nil)) (nomark _)) (pe_one (pe_callB (cr_all rfl) rfl T.f_all (by decide +kernel) (pa_cons (pe_lc (own := [("one", 6)]) rfl sc_is_recipe_row.nd (pi_list (pv 5)) (blkOk_by (own := [("one", 6)]) (N := ["thing", "size", "known", "word", "goal", "others", "one"]) (sc := defScope (top 25)) (by decide +kernel)) (fun _ _ _ _ _ => (pg_name (i := 6) sc_is_recipe_row.nd rfl (Or.inl rfl))) (fun _ _ _ _ _ => pts_nil) (fun _ _ _ _ _ => (pe_and (pe_gf g_is_register (hr.mono (by decide)) rfl (pa_cons (pv 6) pa_nil)) (pe_one (pe_cmp (pc_din (hu_of hr) (pv 6) (pv 2)) rfl))))) pa_nil))))))))), ?_⟩
    obtain ⟨z, t, ss, er, ht, hz⟩ : ∃ z t ss, r = ro z (t :: ss) ∧ (0 ≤ t ∧ t < 24) ∧ True := by
      rcases hg with ⟨t, w, e, h, _⟩ | ⟨t, i, e, h, _⟩ | ⟨z, t, ss, e, h, _⟩
      · exact ⟨_, t, _, e, h, trivial⟩
      · exact ⟨_, t, _, e, h, trivial⟩
      · exact ⟨z, t, ss, e, h, trivial⟩
    subst er
    have hv' : TD H v (.tuple (.str z :: .int t :: ss.map PyData.int)) := hv
    refine st_ifF ?_ fun H1 k1 => ?_
    · refine et_or (b := false) (et_not (b := true) (et_val (ed_isi (ed_var rfl hv') kit_tt))) fun _ => et_or (b := false) ?_ fun _ => et_or (b := false) (et_not (b := true) (et_val (ed_isi (ed_ixT (ed_var rfl hv') ed_i at0) kit_ss))) fun _ => et_not (b := true) (et_val ?_)
      · have e : decide (((PyData.str z :: PyData.int t :: ss.map PyData.int).length : Int) < 2) = false := decide_eq_false (by simp; omega)
        rw [← e]
        exact et_lt (ed_lenT (ed_var rfl hv')) ed_i
      · rw [← inR_yes ht]
        exact ed_is_register (ed_ixT (ed_var rfl hv') ed_i at1)
    replace hv' := hv'.kp k1
    replace hk := hk.kp k1
    obtain ⟨a, xs, rfl, ha, hx⟩ := hv'.tupI
    have hlx := hx.len
    cases hx with
    | cons x1 hx =>
    cases x1
    cases hx with
    | cons x2 hx =>
    cases x2
    rename_i xs
    have hle : ss.length ≤ 3 := by
      rcases hg with ⟨t', w, e, _⟩ | ⟨t', i, e, _⟩ | ⟨z', t', ss', e, _, hz', hm, _⟩
      · cases e; exact Nat.le_of_ble_eq_true rfl
      · cases e; exact Nat.le_of_ble_eq_true rfl
      · cases e
        unfold manyS at hm
        split at hm
        · omega
        · split at hm <;> omega
    have hlx' : xs.length = ss.length := by simpa using hlx
    refine ⟨_, rfl, a, _, rfl, .inl (SqT.of ha), (by simp), (by simp; omega), fun D hD => ?_⟩
    refine ⟨_, _, rfl, ⟨_, _, rfl, ⟨_, _, rfl, rfl, ?_⟩⟩⟩
    have k2 : Kp [] H1 (upd H1 D (.lst xs)) := Kp.new hD
    have eD : (upd H1 D (.lst xs)) D = some (.lst xs) := upd_same
    have hx2 := hx.kp k2
    replace hk := hk.kp k2
    have kk : Kp [] H (upd H1 D (.lst xs)) := k1.trans k2
    show tSeq _ _ _ _ (upd H1 D (.lst xs))
    generalize upd H1 D (.lst xs) = H2 at k2 eD hx2 hk kk ⊢
    refine st_if (et_in2 rfl (ed_var rfl (.str z))) (fun hc H3 k3 => ?_) fun hc H3 k3 => ?_
    · have hc := of_decide_eq_true hc
      replace hx2 := hx2.kp k3
      have eD3 := k3.get eD
      obtain ⟨y, rfl, hy⟩ : ∃ y, ss = [y] ∧ ((z = "set" → 0 ≤ y ∧ y ≤ 999999) ∧ (z ≠ "set" → 0 ≤ y ∧ y < n)) := by
        rcases hg with ⟨t', w, e, _, h1⟩ | ⟨t', i, e, _, h1⟩ | ⟨z', t', ss', e, _, hz', hm, _⟩
        · cases e; exact ⟨w, rfl, fun _ => h1, fun q => absurd rfl q⟩
        · cases e; exact ⟨i, rfl, fun q => absurd q (by decide +kernel), fun _ => h1⟩
        · cases e
          exfalso
          rcases hc with rfl | rfl <;> rcases hz' with e | e <;> revert e <;> decide +kernel
      have ex : xs = [V.int y] := TDs.ofInts (ns := [y]) hx2
      subst ex
      refine st_ifF (et_F (et_neI (ed_lenL (ev_var rfl) eD3) ed_i) rfl) fun H4 k4 => ?_
      refine sd_ret (d := .bool true) (ed_if (et_eqS (ed_var rfl (.str z)) ed_s) (fun q => ed_bT (ed_is_word (ed_ixL (ev_var rfl) (k4.get eD3) (hx2.kp k4) ed_i at0)) ?_) (fun q => ed_bT (ed_is_number_below (ed_ixL (ev_var rfl) (k4.get eD3) (hx2.kp k4) ed_i at0) (ed_var rfl (.int n))) ?_)) fun v H5 k5 t5 => ?_
      · exact isWord_yes (hy.1 (of_decide_eq_true q))
      · exact inR_yes (hy.2 (of_decide_eq_false q))
      · cases t5
        exact k H5 (((kk.trans k3).trans k4).trans k5)
    · have hc := of_decide_eq_false hc
      replace hx2 := hx2.kp k3
      replace hk := hk.kp k3
      have eD3 := k3.get eD
      have hz' : (z = "set" ∨ z = "load" ∨ z = "choose" ∨ z ∈ opL) ∧ (ss.length : Int) = manyS z ∧ ∀ s ∈ ss, (0 ≤ s ∧ s < 24) ∧ s ∈ ks := by
        rcases hg with ⟨t', w, e, _, h1⟩ | ⟨t', i, e, _, h1⟩ | ⟨z', t', ss', e, _, hz', hm, hs⟩
        · cases e; exact absurd (.inl rfl) hc
        · cases e; exact absurd (.inr rfl) hc
        · cases e; exact ⟨.inr (.inr hz'), hm, hs⟩
      have ex : xs = ss.map V.int := TDs.ofInts hx2
      subst ex
      refine sd_ret (d := .bool true) (ed_bT (ed_andV (ed_bT (ed_eqI (ed_lenL (ev_var rfl) eD3) (ed_many_sources (ed_var rfl (.str z)) hz'.1)) ?_) fun _ => ed_allT (n := ss.length) (el_lc (ei_list (ev_var rfl) eD3) (by simp) yat (by simp; omega) (fun _ => rfl) fun i d hd => ?_)) rfl) fun v H5 k5 t5 => ?_
      · rw [List.length_map]; exact decide_eq_true hz'.2.1
      · have hi : i < ss.length := by
          have := (List.getElem?_eq_some_iff.mp hd).1
          simpa using this
        have ed : d = .bool true := by
          have := (List.mem_replicate.mp (List.mem_of_getElem? hd)).2
          exact this
        subst ed
        have e1 : ((ss.map V.int)[i]?).getD .non = .int ss[i] := by simp [hi]
        rw [e1]
        have hs := hz'.2.2 ss[i] (List.getElem_mem hi)
        exact ed_bT (ed_andV (ed_bT (ed_is_register (ed_var rfl (.int _))) (inR_yes hs.1)) fun _ => ed_known (ed_var rfl (.int _)) (ev_var rfl) hk hs.2) rfl
      · cases t5
        exact k H5 ((kk.trans k3).trans k5)
end
end Sr
/-! Data that == and repr can walk. -/
namespace Sr
open PySem PySem.Spec PyProof.Rows L2
def Shp (n : Nat) (d : PyData) : Prop := d.canLay0 = true ∧ d.depth ≤ n
def ShpL (n : Nat) (ds : List PyData) : Prop := PyData.canLayAll0 ds = true ∧ PyData.depthAll ds ≤ n
theorem ShpL.of {n : Nat} : ∀ {ds : List PyData}, (∀ d ∈ ds, Shp n d) → ShpL n ds
  | [], _ => ⟨rfl, Nat.zero_le _⟩
  | d :: ds, h => by
    obtain ⟨a1, a2⟩ := h d List.mem_cons_self
    obtain ⟨b1, b2⟩ := ShpL.of (ds := ds) fun e m => h e (List.mem_cons_of_mem _ m)
    refine ⟨?_, ?_⟩
    · rw [PyData.canLayAll0, a1, b1]; rfl
    · rw [PyData.depthAll]; exact Nat.max_le.mpr ⟨a2, b2⟩
theorem Shp.int {n : Nat} (i : Int) : Shp n (.int i) := ⟨rfl, Nat.zero_le _⟩
theorem Shp.bool {n : Nat} (b : Bool) : Shp n (.bool b) := ⟨rfl, Nat.zero_le _⟩
theorem Shp.none {n : Nat} : Shp n .none := ⟨rfl, Nat.zero_le _⟩
theorem Shp.str {n : Nat} {x : Str} (h : PyData.strOk x = true) : Shp n (.str x) := ⟨h, Nat.zero_le _⟩
theorem Shp.tup {n : Nat} {ds : List PyData} (h : ∀ d ∈ ds, Shp n d) : Shp (n + 1) (.tuple ds) := let ⟨a, b⟩ := ShpL.of h; ⟨a, Nat.succ_le_succ b⟩
theorem Shp.lst {n : Nat} {ds : List PyData} (h : ∀ d ∈ ds, Shp n d) : Shp (n + 1) (.list ds) := let ⟨a, b⟩ := ShpL.of h; ⟨a, Nat.succ_le_succ b⟩
theorem Shp.mono {n m : Nat} {d : PyData} (h : Shp n d) (l : n ≤ m) : Shp m d := ⟨h.1, Nat.le_trans h.2 l⟩
theorem Shp.ok {n : Nat} {d : PyData} (h : Shp n d) (l : n ≤ 64) : SeqAt.shaped d = true := by
  unfold SeqAt.shaped
  rw [h.1, decide_eq_true (Nat.le_trans h.2 l)]
  rfl
theorem Shp.ints {n : Nat} (ns : List Int) : ∀ d ∈ ns.map PyData.int, Shp n d := fun d m => by
  obtain ⟨i, _, rfl⟩ := List.mem_map.mp m
  exact .int i
/-- the words of rows -/
def rowW : List Str := ["set", "load", "choose", "add", "sub", "mul", "div", "mod", "less", "same", "store", "move", "alike"]
theorem rowW_ok : ∀ x ∈ rowW, PyData.strOk x = true := by decide +kernel
theorem Shp.row {r : Row} (h : r.1 ∈ rowW) : Shp 1 (rowD r) := Shp.tup fun d m => by
  rcases List.mem_cons.mp m with rfl | m
  · exact .str (rowW_ok _ h)
  · exact Shp.ints _ d m
section
variable {K : PySem.W.Frag} {σ : L2.St} {H : Hp} {ta tb : TE} {d e : PyData} {n : Nat}
theorem ed_neD (ha : EvD ta σ H d) (hb : EvD tb σ H e) (sd : Shp n d) (se : Shp n e) (hn : n ≤ 64) : EvD (tOp (rNeD K) ta tb) σ H (.bool (!PyData.eqv d e)) := fun H1 k Q q =>
  ha H1 k _ fun v H2 k2 t2 => hb H2 (k.trans k2) _ fun u H3 k3 t3 => ⟨d, e, (t2.kp k3).dp, t3.dp, sd.ok hn, se.ok hn, q _ H3 (k2.trans k3) (.bl _)⟩
theorem et_neD (ha : EvD ta σ H d) (hb : EvD tb σ H e) (sd : Shp n d) (se : Shp n e) (hn : n ≤ 64) : EvT (tTest (tOp (rNeD K) ta tb)) σ H (!PyData.eqv d e) := fun H1 k Q q =>
  ha H1 k _ fun v H2 k2 t2 => hb H2 (k.trans k2) _ fun u H3 k3 t3 => ⟨d, e, (t2.kp k3).dp, t3.dp, sd.ok hn, se.ok hn, _, rfl, q H3 (k2.trans k3)⟩
end
end Sr
/-! is_recipe, is_recipes. -/
namespace Sr
open PySem PySem.Spec PyProof.Rows L2
def GoodRec (n : Int) (r : Rec) : Prop := r.1.length ≤ 3 ∧ (∀ (i : Nat) (row : Row), r.1[i]? = some row → GoodRow n ((r.1.take i).map tgt) row) ∧ r.2 ∈ r.1.map tgt ∧ 0 ≤ r.2 ∧ r.2 < 24
def GoodRecs (rs : List Rec) : Prop := (1 ≤ rs.length ∧ rs.length ≤ 4) ∧ ∀ r ∈ rs, GoodRec rs.length r
section
variable {H H' : Hp} {kd : Addr} {ks : List Int}
theorem putK_len {κ : Type} [DecidableEq κ] (kvs : List (κ × V)) (k : κ) (v : V) : (putK kvs k v).length ≤ kvs.length + 1 := by
  unfold putK
  split <;> simp
theorem KnD.put {t : Int} (h : KnD H kd ks) (hl : ks.length ≤ 1000) : ∃ kvs, DPut H kd (.int t) (.bl true) (upd H kd (.dK kvs)) ∧ KnD (upd H kd (.dK kvs)) kd (ks ++ [t]) := by
  obtain ⟨kvs, e, hz, hk⟩ := h
  refine ⟨putK kvs (Sum.inl t) (.bl true), DPut.k (k := Sum.inl t) e (small1000 (by omega)), _, upd_same, ?_, fun k hm => ?_⟩
  · have := putK_len kvs (Sum.inl t : Key) (.bl true)
    simp
    omega
  · rw [valV_put]
    split
    · rfl
    · rcases List.mem_append.mp hm with q | q
      · exact hk k q
      · rename_i c
        exact absurd (congrArg Sum.inl (List.mem_singleton.mp q)) c
theorem KnD.new (hd : H kd = none) : KnD (upd H kd (.dK [])) kd [] := ⟨[], upd_same, Nat.le_refl _, fun k m => nomatch m⟩
/-- the first item of a row's numbers -/
theorem row_tgt {n : Int} {r : Row} (h : GoodRow n ks r) : ∃ z t ss, r = ro z (t :: ss) ∧ tgt r = t ∧ 0 ≤ t ∧ t < 24 := by
  rcases h with ⟨t, w, rfl, h, _⟩ | ⟨t, i, rfl, h, _⟩ | ⟨z, t, ss, rfl, h, _⟩
  · exact ⟨_, t, _, rfl, rfl, h⟩
  · exact ⟨_, t, _, rfl, rfl, h⟩
  · exact ⟨_, t, _, rfl, rfl, h⟩
theorem TDs.atD {K : PySem.W.Frag} {xs : List V} {ds : List PyData} {i : Nat} {d : PyData} {v : V} (r : TDs H xs ds) (h : ds[i]? = some d) (hv : xs[i]? = some v) : TD H v d := by
  obtain ⟨u, e, t⟩ := r.get h
  rw [hv] at e
  cases e
  exact t
theorem take_snoc {α β : Type} {g : α → β} {xs : List α} {i : Nat} {x : α} (h : xs[i]? = some x) : (xs.take (i + 1)).map g = (xs.take i).map g ++ [g x] := by
  rw [List.take_add_one, h]
  simp
end
theorem GoodRow.word {n : Int} {ks : List Int} {r : Row} (h : GoodRow n ks r) : r.1 ∈ rowW := by
  rcases h with ⟨t, w, rfl, _⟩ | ⟨t, i, rfl, _⟩ | ⟨z, t, ss, rfl, _, hz, _⟩
  · exact List.mem_cons_self
  · exact List.mem_cons_of_mem _ List.mem_cons_self
  · rcases hz with rfl | hz
    · exact List.mem_cons_of_mem _ (List.mem_cons_of_mem _ List.mem_cons_self)
    · have : ∀ x ∈ opL, x ∈ rowW := by decide +kernel
      exact this _ hz
theorem GoodRec.word {n : Int} {r : Rec} (h : GoodRec n r) : ∀ row ∈ r.1, row.1 ∈ rowW := fun row m => by
  obtain ⟨i, hi⟩ := List.getElem?_of_mem m
  exact (h.2.1 i row hi).word
theorem GoodRec.shp {n : Int} {r : Rec} (h : GoodRec n r) : Shp 3 (recD r) := Shp.tup fun d m => by
  rcases List.mem_cons.mp m with rfl | m
  · refine Shp.tup fun d m => ?_
    obtain ⟨row, hr, rfl⟩ := List.mem_map.mp m
    exact Shp.row (h.word row hr)
  · rw [List.mem_singleton.mp m]
    exact .int _
section
variable {P : Program} {w : World} {K : PySem.W.Frag} {mg : Str → Option Value} {base : Heap} {f : Addr} {fd : FuncData}
theorem ed_is_recipe_row {σ : L2.St} {H : Hp} {ta tb tc : TE} {E : XK} {n : Int} {kd : Addr} {ks : List Int} {r : Row} (ha : EvD ta σ H (rowD r)) (hb : EvD tb σ H (.int n)) (hc : EvV tc σ H (.ref kd)) (hk : KnD H kd ks) (hg : GoodRow n ks r) :
    EvD (tCall sp_is_recipe_row [] E (tCons ta (tCons tb (tCons tc tNil)))) σ H (.bool true) := fun H1 k Q q =>
  ha H1 k _ fun v H2 k2 t2 => ev_i hb H2 (k.trans k2) _ fun H3 k3 => hc H3 ((k.trans k2).trans k3) _ fun H4 k4 =>
    ⟨v, n, kd, ks, r, rfl, t2.kp (k3.trans k4), hk.kp (((k.trans k2).trans k3).trans k4), hg, fun H5 k5 => q _ H5 (((k2.trans k3).trans k4).trans k5) (.bl true)⟩
abbrev s_is_recipe : Stmt := top 26
theorem sc_is_recipe : FnScope ["thing", "size", "rows", "result", "known", "row"] ["thing", "size"] (defScope s_is_recipe) := ⟨rfl, rfl, rfl, by decide +kernel, rfl, by decide +kernel, by decide +kernel⟩
def sp_is_recipe : Sp := fun vs H Q _ => ∃ (v : V) (n : Int) (r : Rec), vs = [v, .int n] ∧ TD H v (recD r) ∧ GoodRec n r ∧ ∀ H', Kp [] H H' → Q (.bl true) H'
theorem ok_is_recipe (F : At K mg "is_recipe" "is_recipe" s_is_recipe ["thing", "size"] f fd) (T : Txt K mg) (g_is_register : GF P w K mg base 3 "is_register" ["thing"] sp_is_register)
    (g_is_recipe_row : GF P w K mg base 4 "is_recipe_row" ["thing", "size", "known"] sp_is_recipe_row) : FnOk P w K mg base CX0 5 f fd ["thing", "size"] sp_is_recipe := by
  refine F.fn.ok sc_is_recipe (fun vs H Q E h => ?_) (fun cdv A outer s H vs Q E hr h => ?_)
  · obtain ⟨v, n, r, rfl, _⟩ := h
    rfl
  · obtain ⟨v, n, r, rfl, hv, hg, k⟩ := h
    refine ⟨_, (pss_cons (ps_if (PW.pt (pw_or (pt_not (pt_val (pe_callB call_isi rfl T.f_isinstance (by decide +kernel) (pa_cons (pv 0) (pa_cons (pe_bltn (v := .ty "tuple") (u := .type "tuple") rfl T.f_tuple (by decide +kernel) rfl) pa_nil))))) (pw_or (pt_cmpR op_ne (pe_callB (r := rLen K) call_len_seq rfl T.f_len PySem.boot_len (pa_cons (pv 0) pa_nil)) (pe_gi T.c_RECIPE_PARTS rfl) (nomark _)) (pw_or1 (pt_not (pt_val (pe_callB call_isi rfl T.f_isinstance (by decide +kernel) (pa_cons (pe_ix (r := rIxT K) ix_tup (pv 0) pe_int (fun _ _ => rfl)) (pa_cons (pe_bltn (v := .ty "tuple") (u := .type "tuple") rfl T.f_tuple (by decide +kernel) rfl) pa_nil))))))))) (pss_one (ps_ret pe_bl)) pss_nil)
      (pss_cons (ps_asg (pv 0) (pg_tup rfl (pgs_cons (pg_name (i := 2) sc_is_recipe.nd rfl (Or.inl rfl)) (pgs_cons (pg_name (i := 3) sc_is_recipe.nd rfl (Or.inl rfl)) pgs_nil))))
      (pss_cons (ps_set (i := 4) sc_is_recipe.nd rfl (Or.inl rfl) pe_dnewK)
      (pss_cons (ps_for PassesOwn.never rfl (pi_tup (pv 2)) (pg_name (i := 5) sc_is_recipe.nd rfl (Or.inl rfl)) (pss_cons (ps_if (pt_not (pt_val (pe_gf g_is_recipe_row (hr.mono (by decide)) rfl (pa_cons (pv 5) (pa_cons (pv 1) (pa_cons (pv 4) pa_nil)))))) (pss_one (ps_ret pe_bl)) pss_nil)
      (pss_one (ps_dput (hu_of hr) (pv 4) (pe_ix (r := rIxT K) ix_tup (pv 5) pe_int (fun _ _ => rfl)) pe_bl rfl))))
      (pss_one (ps_ret (pe_and (pe_gf g_is_register (hr.mono (by decide)) rfl (pa_cons (pv 3) pa_nil)) (pe_one (pe_cmp (pc_din (hu_of hr) (pv 3) (pv 4)) rfl))))))))), ?_⟩
    have hv' : TD H v (.tuple [.tuple (r.1.map rowD), .int r.2]) := hv
    refine st_ifF ?_ fun H1 k1 => ?_
    · exact et_or (b := false) (et_not (b := true) (et_val (ed_isi (ed_var rfl hv') kit_tt))) fun _ => et_or (b := false) (et_F (et_neI (ed_lenT (ed_var rfl hv')) ed_i) rfl) fun _ => et_not (b := true) (et_val (ed_isi (ed_ixT (ed_var rfl hv') ed_i at0) kit_tt))
    obtain ⟨a, xs, rfl, ha, hx⟩ := (hv'.kp k1).tupI
    cases hx with
    | cons x1 hx =>
    cases hx with
    | cons x2 hx =>
    cases hx
    cases x2
    obtain ⟨b, rows, rfl, hb, hrows⟩ := x1.tupI
    refine ⟨_, rfl, a, _, rfl, SqT.of ha, rfl, _, _, rfl, ⟨_, _, rfl, rfl, ?_⟩⟩
    intro kd hkd
    have k2 : Kp [] H1 (upd H1 kd (.dK [])) := Kp.new hkd
    have hk0 := KnD.new hkd
    show tSeq _ _ _ _ (upd H1 kd (.dK []))
    have hb2 := k2.get hb
    have hrows2 := hrows.kp k2
    have kk := k1.trans k2
    have fresh : H kd = none := k1.free hkd
    generalize upd H1 kd (.dK []) = H2 at k2 hk0 hb2 hrows2 kk ⊢
    refine st_for (ei_tup (ev_var rfl) hb2) fun H3 k3 => ?_
    refine ⟨fun i σ' H' => ∃ o, σ' = [some (.ref a), some (.int n), some (.ref b), some (.int r.2), some (.ref kd), o] ∧ Kp [kd] H3 H' ∧ KnD H' kd ((r.1.take i).map tgt), ⟨_, rfl, Kp.refl _ _, hk0.kp k3⟩, fun i σ' H' ⟨_, _, kp, _⟩ => ⟨_, kp, fun _ m => nomatch m⟩, fun i x σ' H4 H4' hi hP hy => ?_, fun σ' H' hP => ?_⟩
    · obtain ⟨o, rfl, kp, hk⟩ := hP
      obtain ⟨rfl, hx⟩ := hy
      have hlen := hrows.len
      obtain ⟨row, hrow⟩ : ∃ row, r.1[i]? = some row := ⟨_, List.getElem?_eq_getElem (by simp at hlen; omega)⟩
      have hxd : TD H4' x (rowD row) := ((hrows2.kp k3).kp kp).atD (K := K) (i := i) (by rw [List.getElem?_map, hrow]; rfl) hx
      refine st_ifF (et_not (b := true) (et_val (ed_is_recipe_row (ed_var rfl hxd) (ed_var rfl (.int n)) (ev_var rfl) hk (hg.2.1 i row hrow)))) fun H5 k5 => ?_
      obtain ⟨z, t, ss, er, et, _⟩ := row_tgt (hg.2.1 i row hrow)
      have hxd5 : TD H5 x (.tuple (.str z :: .int t :: ss.map PyData.int)) := by
        have := hxd.kp k5
        rw [er] at this
        exact this
      have e : EvV (tOp (rIxT K) (tVar 5) (tC (.int 1))) [some (.ref a), some (.int n), some (.ref b), some (.int r.2), some (.ref kd), some x] H5 (.int t) := ev_i (ed_ixT (ed_var rfl hxd5) ed_i at1)
      refine ⟨_, rfl, e H5 (Kp.refl _ _) _ fun H6 k6 => ?_⟩
      obtain ⟨kvs, hp, hk6⟩ := (hk.kp (k5.trans k6)).put (t := t) (by have := hg.1; simp; omega)
      refine ⟨kd, _, rfl, hp, some x, rfl, ?_, ?_⟩
      · obtain ⟨kv0, e0, _⟩ := hk.kp (k5.trans k6)
        exact (kp.trans (k5.trans k6).wid).putT (List.mem_singleton.mpr rfl) e0 fun xs z => HO.noConfusion z
      · rw [take_snoc hrow, et]
        exact hk6
    · obtain ⟨o, rfl, kp, hk⟩ := hP
      rw [List.take_of_length_le (by have := hrows.len; simp at this; omega)] at hk
      refine sd_ret (d := .bool true) (ed_bT (ed_andV (ed_bT (ed_is_register (ed_var rfl (.int _))) (inR_yes hg.2.2.2)) fun _ => ed_known (ed_var rfl (.int _)) (ev_var rfl) hk hg.2.2.1) rfl) fun v H5 k5 t5 => ?_
      cases t5
      exact k H5 (((kk.trans k3).thenM kp (fun b hb => .inr (by rw [List.mem_singleton.mp hb]; exact fresh))).trans k5)
theorem ed_is_recipe {σ : L2.St} {H : Hp} {ta tb : TE} {E : XK} {n : Int} {r : Rec} (ha : EvD ta σ H (recD r)) (hb : EvD tb σ H (.int n)) (hg : GoodRec n r) :
    EvD (tCall sp_is_recipe [] E (tCons ta (tCons tb tNil))) σ H (.bool true) := fun H1 k Q q =>
  ha H1 k _ fun v H2 k2 t2 => ev_i hb H2 (k.trans k2) _ fun H3 k3 => ⟨v, n, r, rfl, t2.kp k3, hg, fun H5 k5 => q _ H5 ((k2.trans k3).trans k5) (.bl true)⟩
abbrev s_is_recipes : Stmt := top 27
theorem sc_is_recipes : FnScope ["thing", "one"] ["thing"] (defScope s_is_recipes) := ⟨rfl, rfl, rfl, by decide +kernel, rfl, by decide +kernel, by decide +kernel⟩
def sp_is_recipes : Sp := fun vs H Q _ => ∃ (v : V) (rs : List Rec), vs = [v] ∧ TD H v (recsD rs) ∧ GoodRecs rs ∧ ∀ H', Kp [] H H' → Q (.bl true) H'
theorem ok_is_recipes (F : At K mg "is_recipes" "is_recipes" s_is_recipes ["thing"] f fd) (T : Txt K mg) (g_is_recipe : GF P w K mg base 5 "is_recipe" ["thing", "size"] sp_is_recipe) : FnOk P w K mg base CX0 6 f fd ["thing"] sp_is_recipes := by
  refine F.fn.ok sc_is_recipes (fun vs H Q E h => ?_) (fun cdv A outer s H vs Q E hr h => ?_)
  · obtain ⟨v, rs, rfl, _⟩ := h
    rfl
  · obtain ⟨v, rs, rfl, hv, hg, k⟩ := h
    refine ⟨_, (pss_one (ps_ret (pe_and (pe_callB call_isi rfl T.f_isinstance (by decide +kernel) (pa_cons (pv 0) (pa_cons (pe_bltn (v := .ty "tuple") (u := .type "tuple") rfl T.f_tuple (by decide +kernel) rfl) pa_nil))) (pe_and (pe_cmpR (op_neD hr.units) (pv 0) (pe_tup pa_nil) (nomark _)) (pe_one (pe_callB (cr_all rfl) rfl T.f_all (by decide +kernel) (pa_cons (pe_lc (own := [("one", 1)]) rfl sc_is_recipes.nd (pi_tup (pv 0)) (blkOk_by (own := [("one", 1)]) (N := ["thing", "one"]) (sc := defScope (top 27)) (by decide +kernel)) (fun _ _ _ _ _ => (pg_name (i := 1) sc_is_recipes.nd rfl (Or.inl rfl))) (fun _ _ _ _ _ => pts_nil) (fun _ _ _ _ _ => (pe_gf g_is_recipe (hr.mono (by decide)) rfl (pa_cons (pv 1) (pa_cons (pe_callB (r := rLen K) call_len_seq rfl T.f_len PySem.boot_len (pa_cons (pv 0) pa_nil)) pa_nil))))) pa_nil))))))), ?_⟩
    have hv' : TD H v (.tuple (rs.map recD)) := hv
    obtain ⟨a, xs, rfl, ha, hx⟩ := hv'.tupI
    have hlen : xs.length = rs.length := by simpa using hx.len
    have hsh : Shp 4 (.tuple (rs.map recD)) := Shp.tup fun d m => by
      obtain ⟨r, hr', rfl⟩ := List.mem_map.mp m
      exact GoodRec.shp (hg.2 r hr')
    refine sd_ret (d := .bool true) (ed_bT (ed_andV (ed_isi (ed_var rfl hv') kit_tt) fun _ => ed_andV (ed_neD (ed_var rfl hv') (ed_tup eds_nil) hsh (Shp.tup fun d m => nomatch m) (Nat.le_of_ble_eq_true rfl)) fun _ => ed_allT (n := rs.length) (el_lc (ei_tup (ev_var rfl) ha) (by simp [hlen]) yat (by have := hg.1; omega) (fun _ => rfl) fun i d hd => ?_)) ?_) fun v H5 k5 t5 => ?_
    · have ed : d = .bool true := (List.mem_replicate.mp (List.mem_of_getElem? hd)).2
      subst ed
      have hi : i < rs.length := by
        have := (List.getElem?_eq_some_iff.mp hd).1
        simpa using this
      obtain ⟨x, hx1, hx2⟩ := hx.get (i := i) (d := recD rs[i]) (by simp [hi])
      rw [hx1]
      have hl : EvD (tCB (rLen K) (tCons (tVar 0) tNil)) ((wipe [some (.ref a), none] [1]).set 1 (some ((some x).getD V.non))) H (.int (rs.map recD).length) := ed_lenT (ed_var rfl hv')
      rw [List.length_map] at hl
      exact ed_is_recipe (ed_var rfl hx2) hl (hg.2 _ (List.getElem_mem hi))
    · cases rs with
      | nil => exact absurd hg.1.1 (by simp)
      | cons r rs => rfl
    · cases t5
      exact k H5 k5
end
end Sr
/-! Slices, sums of lists and tuples, unpacking. -/
namespace Sr
open PySem PySem.Spec PyProof.Rows L2
/-- a part of a slice -/
def EvO (tt : TO) (σ : L2.St) (H : Hp) (o : Option Int) : Prop := ∀ H1, Kp [] H H1 → ∀ Q : Option Int → Hp → Prop, (∀ H2, Kp [] H1 H2 → Q o H2) → tt σ H1 Q
/-- a list of data, new or not -/
def EvL0 (te : TE) (σ : L2.St) (H : Hp) (ds : List PyData) : Prop := ∀ H1, Kp [] H H1 → ∀ Q : VK, (∀ l vs H2, Kp [] H1 H2 → H2 l = some (.lst vs) → TDs H2 vs ds → Q (.ref l) H2) → te σ H1 Q
def cutD {α : Type} (ds : List α) (lo hi : Option Int) : List α := (ds.drop (HT.sIx ds.length 0 lo)).take (HT.sIx ds.length ds.length hi - HT.sIx ds.length 0 lo)
section
variable {K : PySem.W.Frag} {σ : L2.St} {H H' : Hp} {ta tb te : TE} {tl th : TO} {t : TA} {i n : Nat} {v u : V} {d : PyData} {ds es : List PyData} {x y : Int} {a l : Addr} {vs : List V} {lo hi : Option Int} {g : TGs} {D : Ends}
theorem eo_none : EvO tNoPart σ H none := fun H1 _ _ q => q H1 (Kp.refl _ _)
theorem eo_some (h : EvD te σ H (.int x)) : EvO (tPart te) σ H (some x) := fun H1 k Q q => ev_i h H1 k _ fun H2 k2 => ⟨x, rfl, q H2 k2⟩
theorem TDs.take : ∀ (n : Nat) {vs : List V} {ds : List PyData}, TDs H vs ds → TDs H (vs.take n) (ds.take n)
  | 0, _, _, _ => .nil
  | _ + 1, _, _, .nil => .nil
  | n + 1, _, _, .cons a r => .cons a (TDs.take n r)
theorem TDs.drop : ∀ (n : Nat) {vs : List V} {ds : List PyData}, TDs H vs ds → TDs H (vs.drop n) (ds.drop n)
  | 0, _, _, r => r
  | _ + 1, _, _, .nil => .nil
  | n + 1, _, _, .cons _ r => TDs.drop n r
theorem TDs.cut (r : TDs H vs ds) (lo hi : Option Int) : TDs H (cutV vs lo hi) (cutD ds lo hi) := by
  unfold cutV cutD
  rw [r.len]
  exact (r.drop _).take _
theorem ed_slT (ha : EvD ta σ H (.tuple ds)) (h1 : EvO tl σ H lo) (h2 : EvO th σ H hi) (nw : ¬ (HT.sIx ds.length 0 lo = 0 ∧ HT.sIx ds.length ds.length hi = ds.length)) : EvD (tSl (rSlT K) ta tl th) σ H (.tuple (cutD ds lo hi)) := fun H1 k Q q =>
  ha H1 k _ fun v H2 k2 t2 => h1 H2 (k.trans k2) _ fun H3 k3 => h2 H3 ((k.trans k2).trans k3) _ fun H4 k4 => by
    obtain ⟨p, xs, e, hp, r⟩ := (t2.kp (k3.trans k4)).tupI
    exact ⟨p, xs, e, SqT.of hp, by rw [r.len]; exact nw, fun z hz => q _ _ (((k2.trans k3).trans k4).newT hz) (.tup upd_same ((r.cut lo hi).kp (Kp.new (S := []) hz)))⟩
theorem el_slL (ha : EvL0 ta σ H ds) (h1 : EvO tl σ H lo) (h2 : EvO th σ H hi) : EvL (tSl (rSlL K) ta tl th) σ H (cutD ds lo hi) := fun H1 k Q q =>
  ha H1 k _ fun l vs H2 k2 e2 t2 => h1 H2 (k.trans k2) _ fun H3 k3 => h2 H3 ((k.trans k2).trans k3) _ fun H4 k4 => by
    have k34 := k3.trans k4
    exact ⟨l, vs, rfl, SqL.of (k34.get e2), fun z hz => q z _ _ ((k2.trans k34).free hz) ((k2.trans k34).newT hz) upd_same ((((t2.kp k34).cut lo hi)).kp (Kp.new (S := []) hz))⟩
theorem EvL.l0 (h : EvL te σ H ds) : EvL0 te σ H ds := fun H1 k Q q => h H1 k _ fun l vs H2 _ k2 e t => q l vs H2 k2 e t
theorem el0_var (e : σ[i]? = some (some (.ref l))) (h : H l = some (.lst vs)) (r : TDs H vs ds) : EvL0 (tVar i) σ H ds := fun H1 k Q q => ⟨_, e, q l vs H1 (Kp.refl _ _) (k.get h) (r.kp k)⟩
theorem el0_v (he : EvV te σ H (.ref l)) (h : H l = some (.lst vs)) (r : TDs H vs ds) : EvL0 te σ H ds := fun H1 k Q q => he H1 k _ fun H2 k2 => q l vs H2 k2 ((k.trans k2).get h) (r.kp (k.trans k2))
theorem el_cat (ha : EvL0 ta σ H ds) (hb : EvL0 tb σ H es) (hz : ds.length + es.length ≤ 100000) : EvL (tOp rCat ta tb) σ H (ds ++ es) := fun H1 k Q q =>
  ha H1 k _ fun l vs H2 k2 e2 t2 => hb H2 (k.trans k2) _ fun m us H3 k3 e3 t3 => ⟨l, m, vs, us, rfl, rfl, k3.get e2, e3, le_line (by rw [t2.len, t3.len]; exact hz), fun p hp =>
    q p _ _ ((k2.trans k3).free hp) ((k2.trans k3).newT hp) upd_same (((t2.kp k3).app t3).kp (Kp.new (S := []) hp))⟩
theorem ed_catT (ha : EvD ta σ H (.tuple ds)) (hb : EvD tb σ H (.tuple es)) (hz : ds.length + es.length ≤ 100000) (hd : ds ≠ []) : EvD (tOp (rCatT K) ta tb) σ H (.tuple (ds ++ es)) := fun H1 k Q q =>
  ha H1 k _ fun v H2 k2 t2 => hb H2 (k.trans k2) _ fun u H3 k3 t3 => by
    obtain ⟨a, vs, rfl, ea, ra⟩ := (t2.kp k3).tupI
    obtain ⟨b, us, rfl, eb, rb⟩ := t3.tupI
    refine ⟨a, b, vs, us, rfl, rfl, SqT.of ea, SqT.of eb, fun z => hd (List.eq_nil_of_length_eq_zero (by rw [← ra.len, z]; rfl)), le_line (by rw [ra.len, rb.len]; exact hz), fun z => ?_, fun _ p hp => q _ _ ((k2.trans k3).newT hp) (.tup upd_same ((ra.app rb).kp (Kp.new (S := []) hp)))⟩
    subst z
    cases rb
    rw [List.append_nil] at q
    exact q _ _ (k2.trans k3) (.tup ea ra)
theorem st_tup (h : EvD te σ H (.tuple ds)) (hl : ds.length = n) (q : ∀ xs H1, Kp [] H H1 → TDs H1 xs ds → g xs σ H1 D.nx) : tAsg te (gTup K n g) D σ H := h H (Kp.refl _ _) _ fun v H1 k t => by
  obtain ⟨a, xs, e, ea, r⟩ := t.tupI
  exact ⟨a, xs, e, SqT.of ea, r.len.trans hl, q xs H1 k r⟩
theorem st_unl (h : EvL0 te σ H ds) (hl : ds.length = n) (q : ∀ xs H1, Kp [] H H1 → TDs H1 xs ds → g xs σ H1 D.nx) : tAsg te (gUnl K n g) D σ H := h H (Kp.refl _ _) _ fun l vs H1 k e t =>
  ⟨l, vs, rfl, SqL.of e, t.len.trans hl, q vs H1 k t⟩
/-- tuple(a list) -/
theorem ed_tupleL {K : PySem.W.Frag} (ha : EvL0 ta σ H ds) : EvD (tCB (fun xs H Q => ∃ p ys, xs = [.ref p] ∧ ((SqL K H p ys ∧ ∀ l, H l = none → Q (.ref l) (upd H l (.tup ys))) ∨ (SqT K H p ys ∧ Q (.ref p) H))) (tCons ta tNil)) σ H (.tuple ds) := fun H1 k Q q =>
  ha H1 k _ fun l vs H2 k2 e t => ⟨l, vs, rfl, .inl ⟨SqL.of e, fun p hp => q _ _ (k2.newT hp) (.tup upd_same (t.kp (Kp.new (S := []) hp)))⟩⟩
theorem el_listT {K : PySem.W.Frag} (ha : EvD ta σ H (.tuple ds)) : EvL (tCB (fun xs H Q => ∃ p ys, xs = [.ref p] ∧ (SqL K H p ys ∨ SqT K H p ys) ∧ ∀ l, H l = none → Q (.ref l) (upd H l (.lst ys))) (tCons ta tNil)) σ H ds := fun H1 k Q q =>
  ha H1 k _ fun v H2 k2 t => by
    obtain ⟨a, xs, rfl, ea, r⟩ := t.tupI
    exact ⟨a, xs, rfl, .inr (SqT.of ea), fun p hp => q p _ _ (k2.free hp) (k2.newT hp) upd_same (r.kp (Kp.new (S := []) hp))⟩
end
end Sr
/-! The rows of pieces. -/
namespace Sr
open PySem PySem.Spec PyProof.Rows L2
local macro_rules | `(tactic| walk_at "ed") => `(tactic| repeat' (first | exact eds_nil | refine eds_cons ?_ ?_ | refine ed_tup ?_ | exact ed_i | exact ed_s | exact ed_var rfl (TD.int _) | exact ed_var rfl (TD.str _) | exact ed_var rfl (by assumption) | refine ed_add ?_ ?_ | refine ed_sub ?_ ?_))
section
variable {P : Program} {w : World} {K : PySem.W.Frag} {mg : Str → Option Value} {base : Heap} {f : Addr} {fd : FuncData}
theorem ed_store_addresses {σ : L2.St} {H : Hp} {ta tb : TE} {E : XK} {n c : Int} (ha : EvD ta σ H (.int n)) (hb : EvD tb σ H (.int c)) (hn : 0 ≤ n ∧ n ≤ 1000) (hc : 0 ≤ c ∧ c ≤ 1000) :
    EvD (tCall sp_store_addresses [] E (tCons ta (tCons tb tNil))) σ H (.tuple [.int (oldA n c), .int (newA n c), .int (lookA n c), .int (bestA n c)]) := fun H1 k Q q =>
  ev_i ha H1 k _ fun H2 k2 => ev_i hb H2 (k.trans k2) _ fun H3 k3 => ⟨n, c, hn, hc, rfl, fun p hp => q _ _ ((k2.trans k3).newT hp) (.tup upd_same (TDs.ints [_, _, _, _]))⟩
theorem el_counting_rows {σ : L2.St} {H : Hp} {ta tb : TE} {E : XK} {o a : Int} (ha : EvD ta σ H (.int o)) (hb : EvD tb σ H (.int a)) : EvL (tCall sp_counting_rows [] E (tCons ta (tCons tb tNil))) σ H ((countR o a).map rowD) := fun H1 k Q q =>
  ev_i ha H1 k _ fun H2 k2 => ev_i hb H2 (k.trans k2) _ fun H3 k3 => ⟨o, a, rfl, fun l us H' hl k' e t => q l us H' ((k2.trans k3).free hl) ((k2.trans k3).trans k') e t⟩
theorem el_choosing_rows {σ : L2.St} {H : Hp} {ta tb tc td : TE} {E : XK} {i o a r : Int} (ha : EvD ta σ H (.int i)) (hb : EvD tb σ H (.int o)) (hc : EvD tc σ H (.int a)) (hd : EvD td σ H (.int r)) :
    EvL (tCall sp_choosing_rows [] E (tCons ta (tCons tb (tCons tc (tCons td tNil))))) σ H ((chooseR i o a r).map rowD) := fun H1 k Q q =>
  ev_i ha H1 k _ fun H2 k2 => ev_i hb H2 (k.trans k2) _ fun H3 k3 => ev_i hc H3 ((k.trans k2).trans k3) _ fun H4 k4 => ev_i hd H4 (((k.trans k2).trans k3).trans k4) _ fun H5 k5 =>
    ⟨i, o, a, r, rfl, fun l us H' hl k' e t => q l us H' ((((k2.trans k3).trans k4).trans k5).free hl) ((((k2.trans k3).trans k4).trans k5).trans k') e t⟩
abbrev s_placed_row : Stmt := top 46
theorem sc_placed_row : FnScope ["row", "old"] ["row", "old"] (defScope s_placed_row) := ⟨rfl, rfl, rfl, by decide +kernel, rfl, by decide +kernel, by decide +kernel⟩
def sp_placed_row : Sp := fun vs H Q _ => ∃ (v : V) (old : Int) (r : Row) (n : Int) (ks : List Int), vs = [v, .int old] ∧ TD H v (rowD r) ∧ GoodRow n ks r ∧ ∀ u H', Kp [] H H' → TD H' u (rowD (placeR old r)) → Q u H'
theorem ok_placed_row (F : At K mg "placed_row" "placed_row" s_placed_row ["row", "old"] f fd) (T : Txt K mg) : FnOk P w K mg base CX0 1 f fd ["row", "old"] sp_placed_row := by
  refine F.fn.ok sc_placed_row (fun vs H Q E h => ?_) (fun cdv A outer s H vs Q E hr h => ?_)
  · obtain ⟨v, o, r, n, ks, rfl, _⟩ := h
    rfl
  · obtain ⟨v, old, r, n, ks, rfl, hv, hg, k⟩ := h
    refine ⟨_, (pss_one (ps_ret (pe_ifExp (pt_cmpR op_eq (pe_ix (r := rIxT K) ix_tup (pv 0) pe_int (fun _ _ => rfl)) pe_str (nomark _)) (pe_tup (pa_cons pe_str (pa_cons (pe_ix (r := rIxT K) ix_tup (pv 0) pe_int (fun _ _ => rfl)) (pa_cons (pe_op op_add (pe_op op_add (pv 1) pe_int) (pe_ix (r := rIxT K) ix_tup (pv 0) pe_int (fun _ _ => rfl))) pa_nil)))) (pv 0)))), ?_⟩
    obtain ⟨z, t, ss, rfl, hz⟩ : ∃ z t ss, r = ro z (t :: ss) ∧ (z = "load" → ∃ i, ss = [i]) := by
      rcases hg with ⟨t, w, rfl, _⟩ | ⟨t, i, rfl, _⟩ | ⟨z, t, ss, rfl, _, hz, _⟩
      · exact ⟨_, t, _, rfl, fun e => absurd e (by decide +kernel)⟩
      · exact ⟨_, t, _, rfl, fun _ => ⟨i, rfl⟩⟩
      · refine ⟨z, t, ss, rfl, fun e => ?_⟩
        subst e
        exact absurd hz (by decide +kernel)
    have hv' : TD H v (.tuple (.str z :: .int t :: ss.map PyData.int)) := hv
    refine sd_ret (d := rowD (placeR old (ro z (t :: ss)))) (ed_if (et_eqS (ed_ixT (ed_var rfl hv') ed_i at0) ed_s) (fun q => ?_) (fun q => ?_)) fun v H1 k1 t1 => k v H1 k1 t1
    · have q := of_decide_eq_true q
      obtain ⟨i, rfl⟩ := hz q
      subst q
      exact ed_tup (eds_cons ed_s (eds_cons (ed_ixT (ed_var rfl hv') ed_i at1) (eds_cons (ed_add (ed_add (ed_var rfl (.int _)) ed_i) (ed_ixT (ed_var rfl hv') ed_i at2)) eds_nil)))
    · have q := of_decide_eq_false q
      have e : placeR old (ro z (t :: ss)) = ro z (t :: ss) := if_neg q
      rw [e]
      exact ed_var rfl hv
theorem ed_placed_row {σ : L2.St} {H : Hp} {ta tb : TE} {E : XK} {old n : Int} {ks : List Int} {r : Row} (ha : EvD ta σ H (rowD r)) (hb : EvD tb σ H (.int old)) (hg : GoodRow n ks r) : EvD (tCall sp_placed_row [] E (tCons ta (tCons tb tNil))) σ H (rowD (placeR old r)) := fun H1 k Q q =>
  ha H1 k _ fun v H2 k2 t2 => ev_i hb H2 (k.trans k2) _ fun H3 k3 => ⟨v, old, r, n, ks, rfl, t2.kp k3, hg, fun u H' k' t => q u H' ((k2.trans k3).trans k') t⟩
end
theorem recsR_snoc (old new : Int) : ∀ (rs : List Rec) (ix : Int) (i : Nat) (r : Rec), rs[i]? = some r → recsR old new ix (rs.take (i + 1)) = recsR old new ix (rs.take i) ++ recR old new (ix + i) r
  | [], _, _, _, e => by simp at e
  | x :: rs, ix, 0, r, e => by
    simp at e
    subst e
    simp [recsR]
  | x :: rs, ix, i + 1, r, e => by
    have h := recsR_snoc old new rs (ix + 1) i r (by simpa using e)
    rw [List.take_succ_cons, List.take_succ_cons, recsR, recsR, h, List.append_assoc]
    congr 3
    push_cast
    omega
theorem recsR_len (n : Int) (old new : Int) : ∀ (rs : List Rec) (ix : Int), (∀ r ∈ rs, r.1.length ≤ 3) → (recsR old new ix rs).length ≤ 7 * rs.length
  | [], _, _ => Nat.le_refl _
  | x :: rs, ix, h => by
    have h1 := recsR_len n old new rs (ix + 1) fun r m => h r (List.mem_cons_of_mem _ m)
    have h2 := h x List.mem_cons_self
    rw [recsR, List.length_append]
    have : (recR old new ix x).length = x.1.length + 4 := by simp [recR, chooseR]
    simp only [List.length_cons]
    omega
section
variable {P : Program} {w : World} {K : PySem.W.Frag} {mg : Str → Option Value} {base : Heap} {f : Addr} {fd : FuncData}
abbrev s_piece_p : Stmt := top 48
theorem sc_piece_p : FnScope ["recipes", "copy", "size", "old", "new", "rows", "index", "steps", "result", "row"] ["recipes", "copy"] (defScope s_piece_p) := ⟨rfl, rfl, rfl, by decide +kernel, rfl, by decide +kernel, by decide +kernel⟩
def sp_piece_p : Sp := fun vs H Q _ => ∃ (v : V) (c : Int) (rs : List Rec), vs = [v, .int c] ∧ TD H v (recsD rs) ∧ GoodRecs rs ∧ (0 ≤ c ∧ c ≤ 1000) ∧ ∀ l us H', H l = none → Kp [] H H' → H' l = some (.lst us) → TDs H' us ((pieceP rs c).map rowD) → Q (.ref l) H'
theorem ok_piece_p (F : At K mg "piece_p" "piece_p" s_piece_p ["recipes", "copy"] f fd) (T : Txt K mg) (g_store_addresses : GF P w K mg base 1 "store_addresses" ["size", "copy"] sp_store_addresses) (g_counting_rows : GF P w K mg base 1 "counting_rows" ["old", "address"] sp_counting_rows)
    (g_choosing_rows : GF P w K mg base 1 "choosing_rows" ["index", "old", "new", "result"] sp_choosing_rows) (g_placed_row : GF P w K mg base 1 "placed_row" ["row", "old"] sp_placed_row) : FnOk P w K mg base CX0 2 f fd ["recipes", "copy"] sp_piece_p := by
  refine F.fn.ok sc_piece_p (fun vs H Q E h => ?_) (fun cdv A outer s H vs Q E hr h => ?_)
  · obtain ⟨v, c, rs, rfl, _⟩ := h
    rfl
  · obtain ⟨v, c, rs, rfl, hv, hg, hc, k⟩ := h
    refine ⟨_, (pss_cons (ps_set (i := 2) sc_piece_p.nd rfl (Or.inl rfl) (pe_callB (r := rLen K) call_len_seq rfl T.f_len PySem.boot_len (pa_cons (pv 0) pa_nil)))
      (pss_cons (ps_asg (pe_slice (r := rSlT K) sl_tup (pe_gf g_store_addresses (hr.mono (by decide)) rfl (pa_cons (pv 2) (pa_cons (pv 1) pa_nil))) po_none (po_some pe_int)) (pg_tup rfl (pgs_cons (pg_name (i := 3) sc_piece_p.nd rfl (Or.inr rfl)) (pgs_cons (pg_name (i := 4) sc_piece_p.nd rfl (Or.inl rfl)) pgs_nil))))
      (pss_cons (ps_set (i := 5) sc_piece_p.nd rfl (Or.inl rfl) (pe_lst (pa_cons (pe_tup (pa_cons pe_str (pa_cons pe_int (pa_cons (pe_gi T.c_INVALID rfl) pa_nil)))) (pa_cons (pe_tup (pa_cons pe_str (pa_cons pe_int (pa_cons (pe_op op_add (pe_op op_add (pv 4) (pv 2)) pe_int) pa_nil)))) (StX.pa_star (pe_gf g_counting_rows (hr.mono (by decide)) rfl (pa_cons (pv 3) (pa_cons (pv 4) pa_nil))) pa_nil)))))
      (pss_cons (ps_for PassesOwn.never rfl (pi_enumT rfl T.f_enumerate (pa_cons (pv 0) pa_nil)) (pg_tup rfl (pgs_cons (pg_name (i := 6) sc_piece_p.nd rfl (Or.inl rfl)) (pgs_cons (pg_tup rfl (pgs_cons (pg_name (i := 7) sc_piece_p.nd rfl (Or.inl rfl)) (pgs_cons (pg_name (i := 8) sc_piece_p.nd rfl (Or.inl rfl)) pgs_nil))) pgs_nil))) (pss_cons (ps_expr (pe_bm PySem.F.plainAttrs_list PySem.F.slot_list_extend PySem.F.type_list_extend mt_extend (pv 5) (pa_cons (pe_lc (own := [("row", 9)]) rfl sc_piece_p.nd (pi_tup (pv 7)) (blkOk_by (own := [("row", 9)]) (N := ["recipes", "copy", "size", "old", "new", "rows", "index", "steps", "result", "row"]) (sc := defScope (top 48)) (by decide +kernel)) (fun _ _ _ _ _ => (pg_name (i := 9) sc_piece_p.nd rfl (Or.inl rfl))) (fun _ _ _ _ _ => pts_nil) (fun _ _ _ _ _ => (pe_gf g_placed_row (hr.mono (by decide)) rfl (pa_cons (pv 9) (pa_cons (pv 3) pa_nil))))) pa_nil)))
      (pss_one (ps_expr (pe_bm PySem.F.plainAttrs_list PySem.F.slot_list_extend PySem.F.type_list_extend mt_extend (pv 5) (pa_cons (pe_gf g_choosing_rows (hr.mono (by decide)) rfl (pa_cons (pv 6) (pa_cons (pv 3) (pa_cons (pv 4) (pa_cons (pv 8) pa_nil))))) pa_nil))))))
      (pss_one (ps_ret (pe_lst (StX.pa_star (pv 5) (StX.pa_star (pe_gf g_counting_rows (hr.mono (by decide)) rfl (pa_cons (pv 3) (pa_cons (pe_op op_add (pe_op op_add (pv 4) (pv 2)) pe_int) pa_nil))) pa_nil))))))))), ?_⟩
    have hv' : TD H v (.tuple (rs.map recD)) := hv
    have hl : EvD (tCB (rLen K) (tCons (tVar 0) tNil)) [some v, some (.int c), none, none, none, none, none, none, none, none] H (.int (rs.map recD).length) := ed_lenT (ed_var rfl hv')
    rw [List.length_map] at hl
    refine sd_set hl fun v1 H1 k1 t1 => ?_
    cases t1
    refine st_tup (ed_slT (ed_store_addresses (ed_var rfl (.int _)) (ed_var rfl (.int _)) (by have := hg.1; omega) hc) eo_none (eo_some ed_i) (fun z => absurd z.2 (show ¬ (HT.sIx 4 4 (some 2) = 4) by decide))) rfl fun xs H2 k2 t2 => ?_
    have ex : xs = [V.int (oldA rs.length c), .int (newA rs.length c)] := TDs.ofInts (ns := [_, _]) t2
    subst ex
    refine ⟨_, _, rfl, ⟨_, _, rfl, rfl, ?_⟩⟩
    have kk := k1.trans k2
    replace hv' := hv'.kp kk
    obtain ⟨a, xr, rfl, ha, hx⟩ := hv'.tupI
    have hlen : xr.length = rs.length := by simpa using hx.len
    dsimp only
    refine sl_set (ds := ([ro "set" [24, 999999], ro "store" [24, newA rs.length c + rs.length + 1]] ++ countR (oldA rs.length c) (newA rs.length c)).map rowD) (el_lst ?_ (Nat.le_of_ble_eq_true rfl)) fun l us H3 hl3 k3 e3 t3 => ?_
    · refine eds_cons (by walk_at "ed") (eds_cons ?_ (eds_starL (es := []) (el_counting_rows (ed_var rfl (.int _)) (ed_var rfl (.int _))) eds_nil))
      exact ed_tup (eds_cons ed_s (eds_cons ed_i (eds_cons (ed_add (ed_add (ed_var rfl (.int _)) (ed_var rfl (.int _))) ed_i) eds_nil)))
    generalize hA : [ro "set" [24, 999999], ro "store" [24, newA rs.length c + rs.length + 1]] ++ countR (oldA rs.length c) (newA rs.length c) = A0 at t3
    have hA0 : A0.length = 8 := by rw [← hA]; rfl
    have fresh : H l = none := kk.free hl3
    refine st_for (ei_enumT (ev_var rfl) (k3.get ha)) fun H4 k4 => ?_
    refine ⟨fun i σ' H' => ∃ us o6 o7 o8, σ' = [some (.ref a), some (.int c), some (.int rs.length), some (.int (oldA rs.length c)), some (.int (newA rs.length c)), some (.ref l), o6, o7, o8, none] ∧ Kp [l] H4 H' ∧ H' l = some (.lst us) ∧
      TDs H' us ((A0 ++ recsR (oldA rs.length c) (newA rs.length c) 0 (rs.take i)).map rowD), ⟨us, _, _, _, rfl, Kp.refl _ _, k4.get e3, by rw [List.take_zero]; simpa [recsR] using t3.kp k4⟩, fun i σ' H' ⟨_, _, _, _, _, kp, _⟩ => ⟨_, kp, fun _ m => nomatch m⟩, fun i x σ' H5 H5' hi hP hy => ?_, fun σ' H' hP => ?_⟩
    · obtain ⟨us, o6, o7, o8, rfl, kp, el, tl⟩ := hP
      obtain ⟨T', x1, x2, rfl, hT, rfl, hx1, hx2⟩ := hy
      cases hx1
      have hir : i < rs.length := by omega
      have hrec : rs[i]? = some rs[i] := List.getElem?_eq_getElem hir
      have hgr := hg.2 rs[i] (List.getElem_mem hir)
      have kT : Kp [] H5 (upd H5 T' (.tup [.int i, x2])) := Kp.new hT
      have xd : TD (upd H5 T' (.tup [.int i, x2])) x2 (recD rs[i]) := ((((hx.kp k3).kp k4).kp kp).kp kT).atD (K := K) (i := i) (by rw [List.getElem?_map, hrec]; rfl) hx2
      refine ⟨T', _, rfl, SqT.of upd_same, rfl, .int i, _, rfl, ?_⟩
      have xd' : TD (upd H5 T' (.tup [.int i, x2])) x2 (.tuple [.tuple (rs[i].1.map rowD), .int rs[i].2]) := xd
      have el' := kT.get el
      have tl' := tl.kp kT
      have kp' := kp.trans kT.wid
      generalize upd H5 T' (.tup [.int i, x2]) = H6 at kT xd xd' el' tl' kp' ⊢
      obtain ⟨b, ys, rfl, hb, hys⟩ := xd'.tupI
      cases hys with
      | cons y1 hys =>
      cases hys with
      | cons y2 hys =>
      cases hys
      cases y2
      obtain ⟨st, rows, rfl, hst, hrows⟩ := y1.tupI
      refine ⟨_, _, rfl, ⟨b, _, rfl, SqT.of hb, rfl, _, _, rfl, ⟨_, _, rfl, rfl, rfl, ?_⟩⟩⟩
      refine sx_ext (ev_var rfl) el' tl' (es := (rs[i].1.map (placeR (oldA rs.length c))).map rowD) (el_lc (ei_tup (ev_var rfl) hst) (by have := hrows.len; simp at this ⊢; omega) yat (by have := hrows.len; have := hgr.1; simp at *; omega) (fun _ => rfl) fun j d hd => ?_) ?_ fun us2 H7 el7 tl7 k7 => ?_
      · rw [List.getElem?_map, List.getElem?_map] at hd
        obtain ⟨row, hrow⟩ : ∃ row, rs[i].1[j]? = some row := by
          cases e : rs[i].1[j]? with
          | none => rw [e] at hd; cases hd
          | some row => exact ⟨row, rfl⟩
        rw [hrow] at hd
        cases hd
        obtain ⟨z, hz1, hz2⟩ := hrows.get (i := j) (d := rowD row) (by rw [List.getElem?_map, hrow]; rfl)
        rw [hz1]
        exact ed_placed_row (ed_var rfl hz2) (ed_var rfl (.int _)) (hgr.2.1 j row hrow)
      · have h1 := hgr.1
        have h2 := recsR_len rs.length (oldA rs.length c) (newA rs.length c) (rs.take i) 0 fun r m => (hg.2 r (List.mem_of_mem_take m)).1
        have h3 := hg.1
        simp only [List.length_map, List.length_append, List.length_take] at h2 ⊢
        omega
      · refine sx_ext (ev_var rfl) el7 tl7 (el_choosing_rows (ed_var rfl (.int _)) (ed_var rfl (.int _)) (ed_var rfl (.int _)) (ed_var rfl (.int _))) ?_ fun us3 H8 el8 tl8 k8 => ?_
        · have h1 := hgr.1
          have h2 := recsR_len rs.length (oldA rs.length c) (newA rs.length c) (rs.take i) 0 fun r m => (hg.2 r (List.mem_of_mem_take m)).1
          have h3 := hg.1
          simp only [List.length_map, List.length_append, List.length_take] at h2 ⊢
          simp only [chooseR, List.length_cons, List.length_nil]
          omega
        · refine ⟨us3, _, _, _, rfl, (kp'.trans k7).trans k8, el8, ?_⟩
          rw [recsR_snoc _ _ rs 0 i rs[i] hrec]
          simpa [recR] using tl8
    · obtain ⟨us, o6, o7, o8, rfl, kp, el, tl⟩ := hP
      rw [hlen, List.take_length] at tl
      dsimp only
      refine sl_ret (ds := (pieceP rs c).map rowD) (el_lst ?_ ?_) fun l2 us2 H6 hl6 k6 e6 t6 => ?_
      · have e : (pieceP rs c).map rowD = (A0 ++ recsR (oldA rs.length c) (newA rs.length c) 0 rs).map rowD ++ ((countR (oldA rs.length c) (newA rs.length c + rs.length + 1)).map rowD ++ []) := by
          rw [← hA]
          simp [pieceP]
        rw [e]
        exact eds_starV rfl el tl (eds_starL (el_counting_rows (ed_var rfl (.int _)) (ed_add (ed_add (ed_var rfl (.int _)) (ed_var rfl (.int _))) ed_i)) eds_nil)
      · have h2 := recsR_len rs.length (oldA rs.length c) (newA rs.length c) rs 0 fun r m => (hg.2 r m).1
        have h3 := hg.1
        simp only [pieceP, List.length_map, List.length_append, countR, List.length_cons, List.length_nil]
        omega
      · have kall : Kp [] H H' := ((kk.trans k3).trans k4).thenM kp fun b hb => .inr (by rw [List.mem_singleton.mp hb]; exact fresh)
        exact k l2 us2 H6 (kall.free hl6) (kall.trans k6) e6 t6
end
end Sr
/-! The rows that vote. -/
namespace Sr
open PySem PySem.Spec PyProof.Rows L2
local macro_rules | `(tactic| walk_at "ed") => `(tactic| repeat' (first | exact eds_nil | refine eds_cons ?_ ?_ | refine ed_tup ?_ | exact ed_i | exact ed_s | exact ed_var rfl (TD.int _) | exact ed_var rfl (TD.str _) | exact ed_var rfl (by assumption) | refine ed_add ?_ ?_ | refine ed_sub ?_ ?_))
theorem flatMap_snoc {α β : Type} {g : α → List β} {xs : List α} {i : Nat} {x : α} (h : xs[i]? = some x) : (xs.take (i + 1)).flatMap g = (xs.take i).flatMap g ++ g x := by
  rw [List.take_add_one, h]
  simp
theorem flatMap_len {α β : Type} {g : α → List β} {n : Nat} (hg : ∀ x, (g x).length = n) : ∀ xs : List α, (xs.flatMap g).length = n * xs.length
  | [] => by simp
  | x :: xs => by
    rw [List.flatMap_cons, List.length_append, hg, flatMap_len hg xs, List.length_cons, Nat.mul_add]
    omega
section
variable {P : Program} {w : World} {K : PySem.W.Frag} {mg : Str → Option Value} {base : Heap} {f : Addr} {fd : FuncData}
abbrev s_vote_rows : Stmt := top 49
theorem sc_vote_rows : FnScope ["news", "faults", "length", "look", "best", "source", "rows", "new"] ["news", "faults", "length", "look", "best", "source"] (defScope s_vote_rows) := ⟨rfl, rfl, rfl, by decide +kernel, rfl, by decide +kernel, by decide +kernel⟩
def sp_vote_rows : Sp := fun vs H Q _ => ∃ (l : Addr) (news : List Int) (e len look best src : Int), vs = [.ref l, .int e, .int len, .int look, .int best, .int src] ∧ H l = some (.lst (news.map V.int)) ∧ news.length ≤ 16 ∧
  ∀ p us H', H p = none → Kp [] H H' → H' p = some (.lst us) → TDs H' us ((voteR news e len look best src).map rowD) → Q (.ref p) H'
theorem voteR_len (news : List Int) (e len look best src : Int) : (voteR news e len look best src).length = 12 + 2 * news.length := by
  unfold voteR
  simp only [List.length_append, List.length_cons, List.length_nil]
  rw [flatMap_len (n := 2) (fun _ => rfl)]
  omega
theorem ok_vote_rows (F : At K mg "vote_rows" "vote_rows" s_vote_rows ["news", "faults", "length", "look", "best", "source"] f fd) (T : Txt K mg) : FnOk P w K mg base CX0 1 f fd ["news", "faults", "length", "look", "best", "source"] sp_vote_rows := by
  refine F.fn.ok sc_vote_rows (fun vs H Q E h => ?_) (fun cdv A outer s H vs Q E hr h => ?_)
  · obtain ⟨l, news, e, len, look, best, src, rfl, _⟩ := h
    rfl
  · obtain ⟨l, news, e, len, look, best, src, rfl, hl, hn, k⟩ := h
    refine ⟨_, (pss_cons (ps_set (i := 6) sc_vote_rows.nd rfl (Or.inl rfl) (pe_lst (pa_cons (pe_tup (pa_cons pe_str (pa_cons pe_int (pa_cons (pv 5) (pa_cons (pv 3) (pa_cons (pv 2) pa_nil)))))) (pa_cons (pe_tup (pa_cons pe_str (pa_cons pe_int (pa_cons (pv 3) pa_nil)))) (pa_cons (pe_tup (pa_cons pe_str (pa_cons pe_int (pa_cons (pe_op op_sub (pe_op op_add (pv 3) (pv 2)) pe_int) pa_nil)))) pa_nil)))))
      (pss_cons (ps_expr (pe_bm PySem.F.plainAttrs_list PySem.F.slot_list_extend PySem.F.type_list_extend mt_extend (pv 6) (pa_cons (pe_lst (pa_cons (pe_tup (pa_cons pe_str (pa_cons pe_int (pa_cons pe_int (pa_cons pe_int pa_nil))))) (pa_cons (pe_tup (pa_cons pe_str (pa_cons pe_int (pa_cons (pv 4) pa_nil)))) (pa_cons (pe_tup (pa_cons pe_str (pa_cons pe_int (pa_cons pe_int (pa_cons pe_int pa_nil))))) (pa_cons (pe_tup (pa_cons pe_str (pa_cons pe_int (pa_cons pe_int pa_nil)))) pa_nil))))) pa_nil)))
      (pss_cons (ps_for PassesOwn.never rfl (pi_list (pv 0)) (pg_name (i := 7) sc_vote_rows.nd rfl (Or.inl rfl)) (pss_one (ps_expr (pe_bm PySem.F.plainAttrs_list PySem.F.slot_list_extend PySem.F.type_list_extend mt_extend (pv 6) (pa_cons (pe_lst (pa_cons (pe_tup (pa_cons pe_str (pa_cons pe_int (pa_cons (pv 3) (pa_cons (pv 7) (pa_cons (pv 2) pa_nil)))))) (pa_cons (pe_tup (pa_cons pe_str (pa_cons pe_int (pa_cons pe_int (pa_cons pe_int pa_nil))))) pa_nil))) pa_nil)))))
      (pss_cons (ps_expr (pe_bm PySem.F.plainAttrs_list PySem.F.slot_list_extend PySem.F.type_list_extend mt_extend (pv 6) (pa_cons (pe_lst (pa_cons (pe_tup (pa_cons pe_str (pa_cons pe_int (pa_cons (pv 1) pa_nil)))) (pa_cons (pe_tup (pa_cons pe_str (pa_cons pe_int (pa_cons pe_int (pa_cons pe_int pa_nil))))) (pa_cons (pe_tup (pa_cons pe_str (pa_cons pe_int (pa_cons pe_int (pa_cons pe_int pa_nil))))) (pa_cons (pe_tup (pa_cons pe_str (pa_cons pe_int (pa_cons pe_int (pa_cons pe_int pa_nil))))) pa_nil))))) pa_nil)))
      (pss_one (ps_ret (pe_lst (StX.pa_star (pv 6) (pa_cons (pe_tup (pa_cons pe_str (pa_cons pe_int (pa_cons (pv 3) (pa_cons (pv 4) (pa_cons (pv 2) pa_nil)))))) pa_nil))))))))), ?_⟩
    refine sl_set (ds := [ro "move" [24, src, look, len], ro "load" [25, look], ro "load" [26, look + len - 1]].map rowD) (el_lst (by walk_at "ed") (Nat.le_of_ble_eq_true rfl)) fun p us H1 hp k1 e1 t1 => ?_
    have hfl : ∀ xs : List Int, (xs.flatMap (fun a => [ro "alike" ([29, look, a, len]), ro "add" ([28, 28, 29])])).length = 2 * xs.length := flatMap_len (fun _ => rfl)
    dsimp only
    refine sx_ext (ev_var rfl) e1 t1 (es := [ro "same" [26, 25, 26], ro "load" [27, best], ro "less" [27, 27, 25], ro "set" [28, 0]].map rowD) (el_lst (by walk_at "ed") (Nat.le_of_ble_eq_true rfl)) (Nat.le_of_ble_eq_true rfl) fun us2 H2 e2 t2 k2 => ?_
    generalize hA : [ro "move" [24, src, look, len], ro "load" [25, look], ro "load" [26, look + len - 1], ro "same" [26, 25, 26], ro "load" [27, best], ro "less" [27, 27, 25], ro "set" [28, 0]] = A0
    have hA0 : A0.length = 7 := by rw [← hA]; rfl
    have t2' : TDs H2 us2 (A0.map rowD) := by rw [← hA]; exact t2
    have np : p ≠ l := fun z => by rw [z, hl] at hp; cases hp
    have hl2 : H2 l = some (.lst (news.map V.int)) := k2.oth l _ (fun m => np (List.mem_singleton.mp m).symm) (k1.get hl)
    dsimp only
    refine st_for (ei_list (ev_var rfl) hl2) fun H3 k3 => ?_
    refine ⟨fun i σ' H' => ∃ us o, σ' = [some (.ref l), some (.int e), some (.int len), some (.int look), some (.int best), some (.int src), some (.ref p), o] ∧ Kp [p] H3 H' ∧ H' p = some (.lst us) ∧
      TDs H' us ((A0 ++ (news.take i).flatMap (fun a => [ro "alike" ([29, look, a, len]), ro "add" ([28, 28, 29])])).map rowD), ⟨us2, _, rfl, Kp.refl _ _, k3.get e2, by simpa using t2'.kp k3⟩, fun i σ' H' ⟨_, _, _, kp, _⟩ => ⟨_, kp, fun b m z => np ((List.mem_singleton.mp z).symm.trans (List.mem_singleton.mp m))⟩, fun i x σ' H4 H4' hi hP hy => ?_, fun σ' H' hP => ?_⟩
    · obtain ⟨us, o, rfl, kp, el, tl⟩ := hP
      obtain ⟨rfl, hx⟩ := hy
      rw [List.length_map] at hi
      have hni : news[i]? = some news[i] := List.getElem?_eq_getElem hi
      rw [List.getElem?_map, hni] at hx
      cases hx
      show tDrop _ _ _ _
      refine sx_ext (ev_var rfl) el tl (es := [ro "alike" [29, look, news[i], len], ro "add" [28, 28, 29]].map rowD) (el_lst (by walk_at "ed") (Nat.le_of_ble_eq_true rfl)) ?_ fun us2 H5 e5 t5 k5 => ?_
      · simp only [List.length_map, List.length_append, hfl, List.length_take, List.length_cons, List.length_nil]
        omega
      · refine ⟨us2, _, rfl, kp.trans k5, e5, ?_⟩
        rw [flatMap_snoc hni]
        simpa using t5
    · obtain ⟨us, o, rfl, kp, el, tl⟩ := hP
      rw [List.length_map, List.take_length] at tl
      dsimp only
      refine sx_ext (ev_var rfl) el tl (es := [ro "set" [29, e], ro "less" [28, 29, 28], ro "mul" [26, 26, 27], ro "mul" [26, 26, 28]].map rowD) (el_lst (by walk_at "ed") (Nat.le_of_ble_eq_true rfl)) ?_ fun us3 H5 e5 t5 k5 => ?_
      · simp only [List.length_map, List.length_append, hfl, List.length_cons, List.length_nil]
        omega
      · dsimp only
        refine sl_ret (ds := (voteR news e len look best src).map rowD) (el_lst ?_ ?_) fun l2 us2 H6 hl6 k6 e6 t6 => ?_
        · have e : (voteR news e len look best src).map rowD = ((A0 ++ news.flatMap (fun a => [ro "alike" ([29, look, a, len]), ro "add" ([28, 28, 29])])).map rowD ++ [ro "set" [29, e], ro "less" [28, 29, 28], ro "mul" [26, 26, 27], ro "mul" [26, 26, 28]].map rowD) ++ [rowD (ro "move" [26, look, best, len])] := by
            rw [← hA]
            simp [voteR]
          rw [e]
          exact eds_starV rfl e5 t5 (by walk_at "ed")
        · rw [List.length_map, voteR_len]
          omega
        · have ka : Kp [p] H1 H' := (k2.trans k3.wid).trans kp
          have kall : Kp [] H H5 := k1.thenM (ka.trans k5) fun b hb => .inr (by rw [List.mem_singleton.mp hb]; exact hp)
          exact k l2 us2 H6 (kall.free hl6) (kall.trans k6) e6 t6
theorem el_vote_rows {σ : L2.St} {H : Hp} {ta tb tc td te tf : TE} {E : XK} {l : Addr} {news : List Int} {e len look best src : Int} (ha : EvV ta σ H (.ref l)) (hl : H l = some (.lst (news.map V.int))) (hn : news.length ≤ 16) (hb : EvD tb σ H (.int e)) (hc : EvD tc σ H (.int len))
    (hd : EvD td σ H (.int look)) (he : EvD te σ H (.int best)) (hf : EvD tf σ H (.int src)) : EvL (tCall sp_vote_rows [] E (tCons ta (tCons tb (tCons tc (tCons td (tCons te (tCons tf tNil))))))) σ H ((voteR news e len look best src).map rowD) := fun H1 k Q q =>
  ha H1 k _ fun H2 k2 => ev_i hb H2 (k.trans k2) _ fun H3 k3 => ev_i hc H3 ((k.trans k2).trans k3) _ fun H4 k4 => ev_i hd H4 (((k.trans k2).trans k3).trans k4) _ fun H5 k5 => ev_i he H5 ((((k.trans k2).trans k3).trans k4).trans k5) _ fun H6 k6 =>
    ev_i hf H6 (((((k.trans k2).trans k3).trans k4).trans k5).trans k6) _ fun H7 k7 => by
      have kk := ((((k2.trans k3).trans k4).trans k5).trans k6).trans k7
      exact ⟨l, news, e, len, look, best, src, rfl, (k.trans kk).get hl, hn, fun p us H' hp k' ep tp => q p us H' (kk.free hp) (kk.trans k') ep tp⟩
abbrev s_piece_q : Stmt := top 50
theorem sc_piece_q : FnScope ["size", "faults", "copies", "copy", "old", "look", "best", "length", "news", "rows", "source", "store", "other"] ["size", "faults", "copies", "copy"] (defScope s_piece_q) := ⟨rfl, rfl, rfl, by decide +kernel, rfl, by decide +kernel, by decide +kernel⟩
def sp_piece_q : Sp := fun vs H Q _ => ∃ (n e : Int) (k : Nat) (c : Int), vs = [.int n, .int e, .int k, .int c] ∧ (0 ≤ n ∧ n ≤ 1000) ∧ k ≤ 16 ∧ (0 ≤ c ∧ c ≤ 1000) ∧
  ∀ p us H', H p = none → Kp [] H H' → H' p = some (.lst us) → TDs H' us ((pieceQ n e k c).map rowD) → Q (.ref p) H'
theorem ok_piece_q (F : At K mg "piece_q" "piece_q" s_piece_q ["size", "faults", "copies", "copy"] f fd) (T : Txt K mg) (g_store_addresses : GF P w K mg base 1 "store_addresses" ["size", "copy"] sp_store_addresses)
    (g_vote_rows : GF P w K mg base 1 "vote_rows" ["news", "faults", "length", "look", "best", "source"] sp_vote_rows) : FnOk P w K mg base CX0 2 f fd ["size", "faults", "copies", "copy"] sp_piece_q := by
  refine F.fn.ok sc_piece_q (fun vs H Q E h => ?_) (fun cdv A outer s H vs Q E hr h => ?_)
  · obtain ⟨n, e, k, c, rfl, _⟩ := h
    rfl
  · obtain ⟨n, e, k, c, rfl, hn, hk, hc, q⟩ := h
    refine ⟨_, (pss_cons (ps_asg (pe_lc (own := [("store", 11)]) rfl sc_piece_q.nd (pi_tup (pe_tup (pa_cons pe_int (pa_cons pe_int (pa_cons pe_int pa_nil))))) (blkOk_by (own := [("store", 11)]) (N := ["size", "faults", "copies", "copy", "old", "look", "best", "length", "news", "rows", "source", "store", "other"]) (sc := defScope (top 50)) (by decide +kernel)) (fun _ _ _ _ _ => (pg_name (i := 11) sc_piece_q.nd rfl (Or.inl rfl))) (fun _ _ _ _ _ => pts_nil) (fun _ _ _ _ _ => (pe_ix (r := rIxT K) ix_tup (pe_gf g_store_addresses (hr.mono (by decide)) rfl (pa_cons (pv 0) (pa_cons (pv 3) pa_nil))) (pv 11) (fun _ _ => rfl)))) (pg_unl rfl (pgs_cons (pg_name (i := 4) sc_piece_q.nd rfl (Or.inl rfl)) (pgs_cons (pg_name (i := 5) sc_piece_q.nd rfl (Or.inl rfl)) (pgs_cons (pg_name (i := 6) sc_piece_q.nd rfl (Or.inl rfl)) pgs_nil)))))
      (pss_cons (ps_set (i := 7) sc_piece_q.nd rfl (Or.inl rfl) (pe_op op_add (pv 0) pe_int))
      (pss_cons (ps_setLc (i := 8) (own := [("other", 12)]) rfl sc_piece_q.nd rfl rfl (sw_true rfl rfl rfl (by decide +kernel)) (pi_range1 rfl T.f_range (pa_cons (pv 2) pa_nil)) (blkOk_by (own := [("other", 12)]) (N := ["size", "faults", "copies", "copy", "old", "look", "best", "length", "news", "rows", "source", "store", "other"]) (sc := defScope (top 50)) (by decide +kernel)) (fun _ _ _ _ _ => (pg_name (i := 12) sc_piece_q.nd rfl (Or.inl rfl))) (fun _ _ _ _ _ => pts_nil) (fun _ _ _ _ _ => (pe_ix (r := rIxT K) ix_tup (pe_gf g_store_addresses (hr.mono (by decide)) rfl (pa_cons (pv 0) (pa_cons (pv 12) pa_nil))) pe_int (fun _ _ => rfl))))
      (pss_cons (ps_set (i := 9) sc_piece_q.nd rfl (Or.inl rfl) (pe_lst (pa_cons (pe_tup (pa_cons pe_str (pa_cons pe_int (pa_cons pe_int pa_nil)))) (pa_cons (pe_tup (pa_cons pe_str (pa_cons pe_int (pa_cons (pv 4) (pa_cons (pv 6) (pa_cons (pv 7) pa_nil)))))) pa_nil))))
      (pss_cons (ps_for PassesOwn.never rfl (pi_list (pv 8)) (pg_name (i := 10) sc_piece_q.nd rfl (Or.inl rfl)) (pss_one (ps_expr (pe_bm PySem.F.plainAttrs_list PySem.F.slot_list_extend PySem.F.type_list_extend mt_extend (pv 9) (pa_cons (pe_gf g_vote_rows (hr.mono (by decide)) rfl (pa_cons (pv 8) (pa_cons (pv 1) (pa_cons (pv 7) (pa_cons (pv 5) (pa_cons (pv 6) (pa_cons (pv 10) pa_nil))))))) pa_nil)))))
      (pss_one (ps_ret (pe_lst (StX.pa_star (pv 9) (pa_cons (pe_tup (pa_cons pe_str (pa_cons pe_int (pa_cons (pv 6) (pa_cons (pv 4) (pa_cons (pv 7) pa_nil)))))) pa_nil)))))))))), ?_⟩
    refine st_unl (EvL.l0 (el_lc (Z := []) (ds := [oldA n c, lookA n c, bestA n c].map PyData.int) (f := fun i => ([V.int 0, .int 2, .int 3][i]?).getD .non) (n := 3) ?_ rfl yat (Nat.le_of_ble_eq_true rfl) (fun _ => rfl) fun i d hd => ?_)) rfl fun xs H1 k1 t1 => ?_
    · exact ei_tupN (K := K) (xs := [V.int 0, .int 2, .int 3]) fun H1 _ Q q => ⟨(by show 3 ≤ sizeLine; decide), q⟩
    · have hs : EvD (tCall sp_store_addresses [] E0 (tCons (tVar 0) (tCons (tVar 3) tNil))) ((wipe (L2.start ["size", "faults", "copies", "copy", "old", "look", "best", "length", "news", "rows", "source", "store", "other"] [.int n, .int e, .int k, .int c]) [11]).set 11 (some (([V.int 0, .int 2, .int 3][i]?).getD .non))) H _ :=
        ed_store_addresses (ed_var rfl (.int n)) (ed_var rfl (.int c)) hn hc
      match i, d, hd with
      | 0, _, rfl => exact ed_ixT hs (ed_var rfl (.int 0)) at0
      | 1, _, rfl => exact ed_ixT hs (ed_var rfl (.int 2)) at2
      | 2, _, rfl => exact ed_ixT hs (ed_var rfl (.int 3)) at3
    have ex : xs = [V.int (oldA n c), .int (lookA n c), .int (bestA n c)] := TDs.ofInts (ns := [_, _, _]) t1
    subst ex
    refine ⟨_, _, rfl, ⟨_, _, rfl, ⟨_, _, rfl, rfl, ?_⟩⟩⟩
    dsimp only
    refine sd_set (ed_add (ed_var rfl (.int n)) ed_i) fun v2 H2 k2 t2 => ?_
    cases t2
    dsimp only
    refine sl_set (ds := (newsA n k).map PyData.int) (el_lc (n := k) (ei_range (ed_var rfl (.int k)) rfl (by omega)) (by simp [newsA]) yfn (by omega) (fun _ => rfl) fun i d hd => ?_) fun l us H3 hl k3 e3 t3 => ?_
    · have hi : i < k := by
        have := (List.getElem?_eq_some_iff.mp hd).1
        simpa [newsA] using this
      have hd' : d = .int (newA n ((0 : Int) + (i : Nat))) := by
        simp [newsA, hi] at hd
        rw [← hd, Int.zero_add]
      subst hd'
      exact ed_ixT (ed_store_addresses (ed_var rfl (.int n)) (ed_var rfl (.int _)) hn (by omega)) ed_i at1
    have el3 : us = (newsA n k).map V.int := TDs.ofInts t3
    subst el3
    have hnk : (newsA n k).length = k := by simp [newsA]
    dsimp only
    refine sl_set (ds := [ro "set" [24, 1], ro "move" [24, oldA n c, bestA n c, n + 2]].map rowD) (el_lst (by walk_at "ed") (Nat.le_of_ble_eq_true rfl)) fun p us H4 hp k4 e4 t4 => ?_
    have hfl : ∀ xs : List Int, (xs.flatMap (fun s => voteR (newsA n k) e (n + 2) (lookA n c) (bestA n c) s)).length = (12 + 2 * k) * xs.length := flatMap_len fun x => by rw [voteR_len, hnk]
    have kk := (k1.trans k2).trans k3
    have fresh : H p = none := kk.free hp
    have np : p ≠ l := fun z => by rw [z, e3] at hp; cases hp
    have el4 := k4.get e3
    dsimp only
    refine st_for (ei_list (ev_var rfl) el4) fun H5 k5 => ?_
    refine ⟨fun i σ' H' => ∃ us o, σ' = [some (.int n), some (.int e), some (.int k), some (.int c), some (.int (oldA n c)), some (.int (lookA n c)), some (.int (bestA n c)), some (.int (n + 2)), some (.ref l), some (.ref p), o, none, none] ∧ Kp [p] H5 H' ∧ H' p = some (.lst us) ∧
      TDs H' us (([ro "set" [24, 1], ro "move" [24, oldA n c, bestA n c, n + 2]] ++ ((newsA n k).take i).flatMap (fun s => voteR (newsA n k) e (n + 2) (lookA n c) (bestA n c) s)).map rowD), ⟨us, _, rfl, Kp.refl _ _, k5.get e4, by simpa using t4.kp k5⟩, fun i σ' H' ⟨_, _, _, kp, _⟩ => ⟨_, kp, fun b m z => np ((List.mem_singleton.mp z).symm.trans (List.mem_singleton.mp m))⟩, fun i x σ' H6 H6' hi hP hy => ?_, fun σ' H' hP => ?_⟩
    · obtain ⟨us, o, rfl, kp, ep, tp⟩ := hP
      obtain ⟨rfl, hx⟩ := hy
      rw [List.length_map] at hi
      have hni : (newsA n k)[i]? = some (newsA n k)[i] := List.getElem?_eq_getElem hi
      rw [List.getElem?_map, hni] at hx
      cases hx
      have el6 : H6' l = some (.lst ((newsA n k).map V.int)) := kp.oth l _ (fun m => np (List.mem_singleton.mp m).symm) (k5.get el4)
      show tDrop _ _ _ _
      refine sx_ext (ev_var rfl) ep tp (el_vote_rows (ev_var rfl) el6 (by omega) (ed_var rfl (.int _)) (ed_var rfl (.int _)) (ed_var rfl (.int _)) (ed_var rfl (.int _)) (ed_var rfl (.int _))) ?_ fun us2 H7 e7 t7 k7 => ?_
      · simp only [List.length_map, List.length_append, hfl, voteR_len, hnk, List.length_take, List.length_cons, List.length_nil]
        have h1 : min i k ≤ 16 := by omega
        have h2 : (12 + 2 * k) * min i k ≤ 44 * 16 := Nat.mul_le_mul (by omega) h1
        omega
      · refine ⟨us2, _, rfl, kp.trans k7, e7, ?_⟩
        rw [flatMap_snoc hni]
        simpa using t7
    · obtain ⟨us, o, rfl, kp, ep, tp⟩ := hP
      rw [List.length_map, List.take_length] at tp
      dsimp only
      refine sl_ret (ds := (pieceQ n e k c).map rowD) (el_lst ?_ ?_) fun l2 us2 H7 hl7 k7 e7 t7 => ?_
      · have e : (pieceQ n e k c).map rowD = ([ro "set" [24, 1], ro "move" [24, oldA n c, bestA n c, n + 2]] ++ (newsA n k).flatMap (fun s => voteR (newsA n k) e (n + 2) (lookA n c) (bestA n c) s)).map rowD ++ [rowD (ro "move" [24, bestA n c, oldA n c, n + 2])] := by
          simp [pieceQ]
        rw [e]
        exact eds_starV rfl ep tp (by walk_at "ed")
      · simp only [pieceQ, List.length_map, List.length_append, hfl, hnk, List.length_cons, List.length_nil]
        have h2 : (12 + 2 * k) * k ≤ 44 * 16 := Nat.mul_le_mul (by omega) hk
        omega
      · have ka : Kp [] H4 H5 := k5
        have kall : Kp [] H H' := ((kk.trans k4).trans k5).thenM kp fun b hb => .inr (by rw [List.mem_singleton.mp hb]; exact fresh)
        exact q l2 us2 H7 (kall.free hl7) (kall.trans k7) e7 t7
end
end Sr
/-! The law's own rows. -/
namespace Sr
open PySem PySem.Spec PyProof.Rows L2
local macro_rules | `(tactic| walk_at "ed") => `(tactic| repeat' (first | exact eds_nil | refine eds_cons ?_ ?_ | refine ed_tup ?_ | exact ed_i | exact ed_s | exact ed_var rfl (TD.int _) | exact ed_var rfl (TD.str _) | exact ed_var rfl (by assumption) | refine ed_add ?_ ?_ | refine ed_sub ?_ ?_))
theorem stores_at (n c : Int) (i : Int) : (4 * c + i) * (n + 2) = 4 * (n + 2) * c + i * (n + 2) := by
  rw [Int.add_mul, Int.mul_assoc 4 c, Int.mul_comm c, ← Int.mul_assoc]
section
variable {P : Program} {w : World} {K : PySem.W.Frag} {mg : Str → Option Value} {base : Heap} {f : Addr} {fd : FuncData}
abbrev s__law_counting : Stmt := top 82
theorem sc__law_counting : FnScope ["_law_old", "_law_to", "_law_found"] ["_law_old", "_law_to"] (defScope s__law_counting) := ⟨rfl, rfl, rfl, by decide +kernel, rfl, by decide +kernel, by decide +kernel⟩
theorem ok__law_counting (F : At K mg "_law_counting" "_law_counting" s__law_counting ["_law_old", "_law_to"] f fd) (T : Txt K mg) : FnOk P w K mg base CX0 1 f fd ["_law_old", "_law_to"] sp_counting_rows := by
  refine F.fn.ok sc__law_counting (fun vs H Q E h => ?_) (fun cdv A outer s H vs Q E hr h => ?_)
  · obtain ⟨n, c, rfl, _⟩ := h
    rfl
  · obtain ⟨old, a, rfl, k⟩ := h
    refine ⟨_, (pss_cons (ps_set (i := 2) sc__law_counting.nd rfl (Or.inl rfl) (pe_lst (pa_cons (pe_tup (pa_cons pe_str (pa_cons pe_int (pa_cons (pv 0) pa_nil)))) (pa_cons (pe_tup (pa_cons pe_str (pa_cons pe_int (pa_cons (pe_op op_add (pv 0) pe_int) pa_nil)))) (pa_cons (pe_tup (pa_cons pe_str (pa_cons pe_int (pa_cons pe_int pa_nil)))) (pa_cons (pe_tup (pa_cons pe_str (pa_cons pe_int (pa_cons pe_int (pa_cons pe_int pa_nil))))) pa_nil))))))
      (pss_one (ps_ret (pe_op op_cat (pv 2) (pe_lst (pa_cons (pe_tup (pa_cons pe_str (pa_cons pe_int (pa_cons pe_int (pa_cons pe_int pa_nil))))) (pa_cons (pe_tup (pa_cons pe_str (pa_cons pe_int (pa_cons (pv 1) pa_nil)))) pa_nil))))))), ?_⟩
    refine sl_set (ds := ((countR old a).take 4).map rowD) (el_lst (by walk_at "ed") (Nat.le_of_ble_eq_true rfl)) fun l vs H1 hl k1 e1 t1 => ?_
    dsimp only
    refine sl_ret (ds := (countR old a).map rowD) (el_cat (el0_var rfl e1 t1) (EvL.l0 (el_lst (ds := ((countR old a).drop 4).map rowD) (by walk_at "ed") (Nat.le_of_ble_eq_true rfl))) (Nat.le_of_ble_eq_true rfl)) fun l2 vs2 H2 hl2 k2 e2 t2 => ?_
    exact k l2 vs2 H2 (k1.free hl2) (k1.trans k2) e2 t2
abbrev s__law_stores : Stmt := top 83
theorem sc__law_stores : FnScope ["_law_many", "_law_copy", "_law_k"] ["_law_many", "_law_copy"] (defScope s__law_stores) := ⟨rfl, rfl, rfl, by decide +kernel, rfl, by decide +kernel, by decide +kernel⟩
def sp__law_stores : Sp := fun vs H Q _ => ∃ n c : Int, (0 ≤ n ∧ n ≤ 1000) ∧ (0 ≤ c ∧ c ≤ 1000) ∧ vs = [.int n, .int c] ∧ ∀ l us H', H l = none → Kp [] H H' → H' l = some (.lst us) → TDs H' us [.int (oldA n c), .int (newA n c), .int (lookA n c), .int (bestA n c)] → Q (.ref l) H'
theorem ok__law_stores (F : At K mg "_law_stores" "_law_stores" s__law_stores ["_law_many", "_law_copy"] f fd) (T : Txt K mg) : FnOk P w K mg base CX0 1 f fd ["_law_many", "_law_copy"] sp__law_stores := by
  refine F.fn.ok sc__law_stores (fun vs H Q E h => ?_) (fun cdv A outer s H vs Q E hr h => ?_)
  · obtain ⟨n, c, _, _, rfl, _⟩ := h
    rfl
  · obtain ⟨n, c, hn, hc, rfl, k⟩ := h
    refine ⟨_, (pss_one (ps_ret (pe_lc (own := [("_law_k", 2)]) rfl sc__law_stores.nd (pi_range1 rfl T.f_range (pa_cons pe_int pa_nil)) (blkOk_by (own := [("_law_k", 2)]) (N := ["_law_many", "_law_copy", "_law_k"]) (sc := defScope (top 83)) (by decide +kernel)) (fun _ _ _ _ _ => (pg_name (i := 2) sc__law_stores.nd rfl (Or.inl rfl))) (fun _ _ _ _ _ => pts_nil) (fun _ _ _ _ _ => (pe_op op_mul (pe_op op_add (pe_op op_mul pe_int (pv 1)) (pv 2)) (pe_op op_add (pv 0) pe_int)))))), ?_⟩
    refine sl_ret (ds := [.int (oldA n c), .int (newA n c), .int (lookA n c), .int (bestA n c)]) (el_lc (n := 4) (ei_range ed_i rfl (by omega)) rfl yfn (Nat.le_of_ble_eq_true rfl) (fun _ => rfl) fun i d hd => ?_) fun l us H1 hl k1 e1 t1 => k l us H1 hl k1 e1 t1
    have hi : i < 4 := (List.getElem?_eq_some_iff.mp hd).1
    have hd' : d = .int ((4 * c + (0 + (i : Nat))) * (n + 2)) := by
      rw [Int.zero_add, stores_at]
      match i, d, hd with
      | 0, _, rfl => simp [oldA]
      | 1, _, rfl => simp [newA]
      | 2, _, rfl => simp [lookA]
      | 3, _, rfl => simp [bestA]
    subst hd'
    exact ed_mul (ed_add (ed_mul ed_i (ed_var rfl (.int c)) (.inl ⟨by decide, by decide⟩)) (ed_var rfl (.int _))) (ed_add (ed_var rfl (.int n)) ed_i) (.inl ⟨by omega, by omega⟩)
theorem el__law_stores {σ : L2.St} {H : Hp} {ta tb : TE} {E : XK} {n c : Int} (ha : EvD ta σ H (.int n)) (hb : EvD tb σ H (.int c)) (hn : 0 ≤ n ∧ n ≤ 1000) (hc : 0 ≤ c ∧ c ≤ 1000) :
    EvL (tCall sp__law_stores [] E (tCons ta (tCons tb tNil))) σ H [.int (oldA n c), .int (newA n c), .int (lookA n c), .int (bestA n c)] := fun H1 k Q q =>
  ev_i ha H1 k _ fun H2 k2 => ev_i hb H2 (k.trans k2) _ fun H3 k3 => ⟨n, c, hn, hc, rfl, fun l us H' hl k' e t => q l us H' ((k2.trans k3).free hl) ((k2.trans k3).trans k') e t⟩
/-- an item of a new list -/
theorem ed_ixN {σ : L2.St} {H : Hp} {ta tb : TE} {ds : List PyData} {x : Int} {d : PyData} (ha : EvL0 ta σ H ds) (hb : EvD tb σ H (.int x)) (h : L2.atI ds x = some d) : EvD (tOp (rIxL K) ta tb) σ H d := fun H1 k Q q =>
  ha H1 k _ fun l vs H2 k2 e2 t2 => hb H2 (k.trans k2) _ fun u H3 k3 t3 => by
    obtain ⟨z, h1, h2⟩ := (t2.kp k3).atI h
    cases t3
    exact ⟨l, vs, x, z, rfl, rfl, SqL.of (k3.get e2), h1, q z H3 (k2.trans k3) h2⟩
abbrev s__law_p : Stmt := top 84
theorem sc__law_p : FnScope ["_law_given", "_law_copy", "_law_many", "_law_old", "_law_new", "_law_found", "_law_k", "_law_steps", "_law_result", "_law_step"] ["_law_given", "_law_copy"] (defScope s__law_p) := ⟨rfl, rfl, rfl, by decide +kernel, rfl, by decide +kernel, by decide +kernel⟩
theorem ok__law_p (F : At K mg "_law_p" "_law_p" s__law_p ["_law_given", "_law_copy"] f fd) (T : Txt K mg) (g__law_stores : GF P w K mg base 1 "_law_stores" ["_law_many", "_law_copy"] sp__law_stores) (g__law_counting : GF P w K mg base 1 "_law_counting" ["_law_old", "_law_to"] sp_counting_rows) :
    FnOk P w K mg base CX0 2 f fd ["_law_given", "_law_copy"] sp_piece_p := by
  refine F.fn.ok sc__law_p (fun vs H Q E h => ?_) (fun cdv A outer s H vs Q E hr h => ?_)
  · obtain ⟨v, c, rs, rfl, _⟩ := h
    rfl
  · obtain ⟨v, c, rs, rfl, hv, hg, hc, k⟩ := h
    refine ⟨_, (pss_cons (ps_set (i := 2) sc__law_p.nd rfl (Or.inl rfl) (pe_callB (r := rLen K) call_len_seq rfl T.f_len PySem.boot_len (pa_cons (pv 0) pa_nil)))
      (pss_cons (ps_asg (pe_slice (r := rSlL K) sl_list (pe_gf g__law_stores (hr.mono (by decide)) rfl (pa_cons (pv 2) (pa_cons (pv 1) pa_nil))) po_none (po_some pe_int)) (pg_unl rfl (pgs_cons (pg_name (i := 3) sc__law_p.nd rfl (Or.inl rfl)) (pgs_cons (pg_name (i := 4) sc__law_p.nd rfl (Or.inl rfl)) pgs_nil))))
      (pss_cons (ps_set (i := 5) sc__law_p.nd rfl (Or.inl rfl) (pe_op op_cat (pe_lst (pa_cons (pe_tup (pa_cons pe_str (pa_cons pe_int (pa_cons pe_int pa_nil)))) (pa_cons (pe_tup (pa_cons pe_str (pa_cons pe_int (pa_cons (pe_op op_add (pe_op op_add (pv 4) (pv 2)) pe_int) pa_nil)))) pa_nil))) (pe_gf g__law_counting (hr.mono (by decide)) rfl (pa_cons (pv 3) (pa_cons (pv 4) pa_nil)))))
      (pss_cons (ps_for PassesOwn.never rfl (pi_enumT rfl T.f_enumerate (pa_cons (pv 0) pa_nil)) (pg_tup rfl (pgs_cons (pg_name (i := 6) sc__law_p.nd rfl (Or.inl rfl)) (pgs_cons (pg_tup rfl (pgs_cons (pg_name (i := 7) sc__law_p.nd rfl (Or.inl rfl)) (pgs_cons (pg_name (i := 8) sc__law_p.nd rfl (Or.inl rfl)) pgs_nil))) pgs_nil))) (pss_cons (ps_for PassesOwn.never rfl (pi_tup (pv 7)) (pg_name (i := 9) sc__law_p.nd rfl (Or.inl rfl)) (pss_one (ps_expr (pe_bm PySem.F.plainAttrs_list PySem.F.slot_list_append PySem.F.type_list_append mt_append (pv 5) (pa_cons (pe_ifExp (pt_cmpR op_eq (pe_ix (r := rIxT K) ix_tup (pv 9) pe_int (fun _ _ => rfl)) pe_str (nomark _)) (pe_op op_catT (pe_slice (r := rSlT K) sl_tup (pv 9) po_none (po_some pe_int)) (pe_tup (pa_cons (pe_op op_add (pe_op op_add (pv 3) pe_int) (pe_ix (r := rIxT K) ix_tup (pv 9) pe_int (fun _ _ => rfl))) pa_nil))) (pv 9)) pa_nil)))))
      (pss_cons (ps_set (i := 5) sc__law_p.nd rfl (Or.inl rfl) (pe_op op_cat (pv 5) (pe_lst (pa_cons (pe_tup (pa_cons pe_str (pa_cons pe_int (pa_cons (pe_op op_add (pe_op op_add (pv 3) pe_int) (pv 6)) pa_nil)))) (pa_cons (pe_tup (pa_cons pe_str (pa_cons pe_int (pa_cons (pe_op op_add (pv 3) pe_int) pa_nil)))) (pa_cons (pe_tup (pa_cons pe_str (pa_cons pe_int (pa_cons pe_int (pa_cons pe_int (pa_cons (pv 8) pa_nil)))))) pa_nil))))))
      (pss_one (ps_expr (pe_bm PySem.F.plainAttrs_list PySem.F.slot_list_append PySem.F.type_list_append mt_append (pv 5) (pa_cons (pe_tup (pa_cons pe_str (pa_cons pe_int (pa_cons (pe_op op_add (pe_op op_add (pv 4) pe_int) (pv 6)) pa_nil)))) pa_nil)))))))
      (pss_one (ps_ret (pe_op op_cat (pv 5) (pe_gf g__law_counting (hr.mono (by decide)) rfl (pa_cons (pv 3) (pa_cons (pe_op op_add (pe_op op_add (pv 4) (pv 2)) pe_int) pa_nil)))))))))), ?_⟩
    have hv' : TD H v (.tuple (rs.map recD)) := hv
    have hl : EvD (tCB (rLen K) (tCons (tVar 0) tNil)) [some v, some (.int c), none, none, none, none, none, none, none, none] H (.int (rs.map recD).length) := ed_lenT (ed_var rfl hv')
    rw [List.length_map] at hl
    refine sd_set hl fun v1 H1 k1 t1 => ?_
    cases t1
    dsimp only
    refine st_unl (EvL.l0 (el_slL (EvL.l0 (el__law_stores (ed_var rfl (.int _)) (ed_var rfl (.int _)) (by have := hg.1; omega) hc)) eo_none (eo_some ed_i))) rfl fun xs H2 k2 t2 => ?_
    have ex : xs = [V.int (oldA rs.length c), .int (newA rs.length c)] := TDs.ofInts (ns := [_, _]) t2
    subst ex
    refine ⟨_, _, rfl, ⟨_, _, rfl, rfl, ?_⟩⟩
    have kk := k1.trans k2
    replace hv' := hv'.kp kk
    obtain ⟨a, xr, rfl, ha, hx⟩ := hv'.tupI
    have hlen : xr.length = rs.length := by simpa using hx.len
    dsimp only
    refine sl_set (ds := ([ro "set" [24, 999999], ro "store" [24, newA rs.length c + rs.length + 1]] ++ countR (oldA rs.length c) (newA rs.length c)).map rowD) ?_ fun l us H3 hl3 k3 e3 t3 => ?_
    · rw [List.map_append]
      refine el_cat (EvL.l0 (el_lst ?_ (Nat.le_of_ble_eq_true rfl))) (EvL.l0 (el_counting_rows (ed_var rfl (.int _)) (ed_var rfl (.int _)))) (by simp [countR])
      refine eds_cons (by walk_at "ed") (eds_cons ?_ eds_nil)
      exact ed_tup (eds_cons ed_s (eds_cons ed_i (eds_cons (ed_add (ed_add (ed_var rfl (.int _)) (ed_var rfl (.int _))) ed_i) eds_nil)))
    generalize hA : [ro "set" [24, 999999], ro "store" [24, newA rs.length c + rs.length + 1]] ++ countR (oldA rs.length c) (newA rs.length c) = A0 at t3
    have hA0 : A0.length = 8 := by rw [← hA]; rfl
    have fresh : H l = none := kk.free hl3
    dsimp only
    refine st_for (ei_enumT (ev_var rfl) (k3.get ha)) fun H4 k4 => ?_
    refine ⟨fun i σ' H' => ∃ m us o6 o7 o8 o9, σ' = [some (.ref a), some (.int c), some (.int rs.length), some (.int (oldA rs.length c)), some (.int (newA rs.length c)), some (.ref m), o6, o7, o8, o9] ∧ (m = l ∨ H4 m = none) ∧ Kp [l] H4 H' ∧ H' m = some (.lst us) ∧
      TDs H' us ((A0 ++ recsR (oldA rs.length c) (newA rs.length c) 0 (rs.take i)).map rowD), ⟨l, us, _, _, _, _, rfl, .inl rfl, Kp.refl _ _, k4.get e3, by rw [List.take_zero]; simpa [recsR] using t3.kp k4⟩, fun i σ' H' ⟨_, _, _, _, _, _, _, _, kp, _⟩ => ⟨_, kp, fun _ m => nomatch m⟩, fun i x σ' H5 H5' hi hP hy => ?_, fun σ' H' hP => ?_⟩
    · obtain ⟨m, us, o6, o7, o8, o9, rfl, hm, kp, el, tl⟩ := hP
      obtain ⟨T', x1, x2, rfl, hT, rfl, hx1, hx2⟩ := hy
      cases hx1
      have hir : i < rs.length := by omega
      have hrec : rs[i]? = some rs[i] := List.getElem?_eq_getElem hir
      have hgr := hg.2 rs[i] (List.getElem_mem hir)
      have kT : Kp [] H5 (upd H5 T' (.tup [.int i, x2])) := Kp.new hT
      have xd : TD (upd H5 T' (.tup [.int i, x2])) x2 (recD rs[i]) := ((((hx.kp k3).kp k4).kp kp).kp kT).atD (K := K) (i := i) (by rw [List.getElem?_map, hrec]; rfl) hx2
      refine ⟨T', _, rfl, SqT.of upd_same, rfl, .int i, _, rfl, ?_⟩
      have xd' : TD (upd H5 T' (.tup [.int i, x2])) x2 (.tuple [.tuple (rs[i].1.map rowD), .int rs[i].2]) := xd
      have el' := kT.get el
      have tl' := tl.kp kT
      have kp' := kp.trans kT.wid
      generalize upd H5 T' (.tup [.int i, x2]) = H6 at kT xd xd' el' tl' kp' ⊢
      obtain ⟨b, ys, rfl, hb, hys⟩ := xd'.tupI
      cases hys with
      | cons y1 hys =>
      cases hys with
      | cons y2 hys =>
      cases hys
      cases y2
      obtain ⟨st, rows, rfl, hst, hrows⟩ := y1.tupI
      refine ⟨_, _, rfl, ⟨b, _, rfl, SqT.of hb, rfl, _, _, rfl, ⟨_, _, rfl, rfl, rfl, ?_⟩⟩⟩
      have hlr : rows.length = rs[i].1.length := by simpa using hrows.len
      have hsz : (A0 ++ recsR (oldA rs.length c) (newA rs.length c) 0 (rs.take i)).length ≤ 36 := by
        have h2 := recsR_len rs.length (oldA rs.length c) (newA rs.length c) (rs.take i) 0 fun r m => (hg.2 r (List.mem_of_mem_take m)).1
        have h3 := hg.1
        rw [List.length_append, hA0]
        rw [List.length_take] at h2
        omega
      generalize hB : A0 ++ recsR (oldA rs.length c) (newA rs.length c) 0 (rs.take i) = B0 at tl' hsz tl
      show tSeq _ _ _ _ _
      refine st_for (ei_tup (ev_var rfl) hst) fun H7 k7 => ?_
      refine ⟨fun j σ' H' => ∃ us o9, σ' = [some (.ref a), some (.int c), some (.int rs.length), some (.int (oldA rs.length c)), some (.int (newA rs.length c)), some (.ref m), some (.int i), some (.ref st), some (.int rs[i].2), o9] ∧ Kp [m] H7 H' ∧ H' m = some (.lst us) ∧
        TDs H' us ((B0 ++ (rs[i].1.take j).map (placeR (oldA rs.length c))).map rowD), ⟨us, _, rfl, Kp.refl _ _, k7.get el', by simpa using tl'.kp k7⟩, fun j σ' H' ⟨_, _, _, kp, _⟩ => ⟨_, kp, fun _ m => nomatch m⟩, fun j x σ' H8 H8' hj hP hy => ?_, fun σ' H' hP => ?_⟩
      · obtain ⟨us, o9, rfl, kp8, el8, tl8⟩ := hP
        obtain ⟨rfl, hx⟩ := hy
        have hj' : j < rs[i].1.length := by omega
        have hrow : rs[i].1[j]? = some rs[i].1[j] := List.getElem?_eq_getElem hj'
        have hxd : TD H8' x (rowD rs[i].1[j]) := ((hrows.kp k7).kp kp8).atD (K := K) (i := j) (by rw [List.getElem?_map, hrow]; rfl) hx
        have hgood := hgr.2.1 j _ hrow
        show tDrop _ _ _ _
        refine sx_app (d := rowD (placeR (oldA rs.length c) rs[i].1[j])) (ev_var rfl) el8 tl8 ?_ ?_ fun us9 H9 e9 t9 k9 => ?_
        · generalize rs[i].1[j] = r at hxd hgood
          obtain ⟨z, t, ss, rfl, hz⟩ : ∃ z t ss, r = ro z (t :: ss) ∧ (z = "load" → ∃ i, ss = [i]) := by
            rcases hgood with ⟨t, w, rfl, _⟩ | ⟨t, i, rfl, _⟩ | ⟨z, t, ss, rfl, _, hz, _⟩
            · exact ⟨_, t, _, rfl, fun e => absurd e (by decide +kernel)⟩
            · exact ⟨_, t, _, rfl, fun _ => ⟨i, rfl⟩⟩
            · refine ⟨z, t, ss, rfl, fun e => ?_⟩
              subst e
              exact absurd hz (by decide +kernel)
          have hv' : TD H8' x (.tuple (.str z :: .int t :: ss.map PyData.int)) := hxd
          refine ed_if (et_eqS (ed_ixT (ed_var rfl hv') ed_i at0) ed_s) (fun q => ?_) (fun q => ?_)
          · have q := of_decide_eq_true q
            obtain ⟨i, rfl⟩ := hz q
            subst q
            exact ed_catT (ed_slT (ed_var rfl hv') eo_none (eo_some ed_i) (fun z => absurd z.2 (show ¬ (HT.sIx 3 3 (some 2) = 3) by decide))) (ed_tup (eds_cons (ed_add (ed_add (ed_var rfl (.int _)) ed_i) (ed_ixT (ed_var rfl hv') ed_i at2)) eds_nil)) (Nat.le_of_ble_eq_true rfl) (fun z => nomatch z)
          · have q := of_decide_eq_false q
            have e : placeR (oldA rs.length c) (ro z (t :: ss)) = ro z (t :: ss) := if_neg q
            rw [e]
            exact ed_var rfl hxd
        · have := hgr.1
          simp only [List.length_map, List.length_append, List.length_take]
          omega
        · refine ⟨us9, _, rfl, kp8.trans k9, e9, ?_⟩
          rw [take_snoc hrow]
          simpa using t9
      · obtain ⟨us, o9, rfl, kp8, el8, tl8⟩ := hP
        have h1 := hgr.1
        rw [hlr, List.take_length] at tl8
        dsimp only
        refine sl_set (ds := ((B0 ++ rs[i].1.map (placeR (oldA rs.length c))) ++ (chooseR i (oldA rs.length c) (newA rs.length c) rs[i].2).take 3).map rowD) ?_ fun p us9 H9 hp9 k9 e9 t9 => ?_
        · rw [List.map_append]
          refine el_cat (el0_var rfl el8 tl8) (EvL.l0 (el_lst (ds := ((chooseR i (oldA rs.length c) (newA rs.length c) rs[i].2).take 3).map rowD) (by walk_at "ed") (Nat.le_of_ble_eq_true rfl))) ?_
          simp only [List.length_map, List.length_append, chooseR, List.take_succ_cons, List.length_cons, List.take_zero, List.length_nil]
          omega
        dsimp only
        refine sx_app (d := rowD (ro "store" [24, newA rs.length c + 1 + i])) (ev_var rfl) e9 t9 (by walk_at "ed") ?_ fun us10 H10 e10 t10 k10 => ?_
        · simp only [List.length_map, List.length_append, chooseR, List.take_succ_cons, List.length_cons, List.take_zero, List.length_nil]
          omega
        have ka : Kp [l] H4 H' := (kp'.trans k7.wid).thenM kp8 fun b hb => by
          rw [List.mem_singleton.mp hb]
          rcases hm with z | z
          · exact .inl (List.mem_singleton.mpr z)
          · exact .inr z
        have hp4 : H4 p = none := ka.free hp9
        refine ⟨p, us10, _, _, _, _, rfl, .inr hp4, (ka.trans k9.wid).thenM k10 fun b hb => .inr (by rw [List.mem_singleton.mp hb]; exact hp4), e10, ?_⟩
        have eB : (A0 ++ recsR (oldA rs.length c) (newA rs.length c) 0 (rs.take (i + 1))) = B0 ++ (rs[i].1.map (placeR (oldA rs.length c)) ++ chooseR i (oldA rs.length c) (newA rs.length c) rs[i].2) := by
          rw [recsR_snoc _ _ rs 0 i rs[i] hrec, ← List.append_assoc, hB]
          simp [recR]
        rw [eB]
        simpa [chooseR] using t10
    · obtain ⟨m, us, o6, o7, o8, o9, rfl, hm, kp, el, tl⟩ := hP
      rw [hlen, List.take_length] at tl
      dsimp only
      refine sl_ret (ds := (pieceP rs c).map rowD) ?_ fun l2 us2 H6 hl6 k6 e6 t6 => ?_
      · have e : (pieceP rs c).map rowD = (A0 ++ recsR (oldA rs.length c) (newA rs.length c) 0 rs).map rowD ++ (countR (oldA rs.length c) (newA rs.length c + rs.length + 1)).map rowD := by
          rw [← hA]
          simp [pieceP]
        rw [e]
        refine el_cat (el0_var rfl el tl) (EvL.l0 (el_counting_rows (ed_var rfl (.int _)) (ed_add (ed_add (ed_var rfl (.int _)) (ed_var rfl (.int _))) ed_i))) ?_
        have h2 := recsR_len rs.length (oldA rs.length c) (newA rs.length c) rs 0 fun r m => (hg.2 r m).1
        have h3 := hg.1
        simp only [List.length_map, List.length_append, countR, List.length_cons, List.length_nil]
        omega
      · have kall : Kp [] H H' := ((kk.trans k3).trans k4).thenM kp fun b hb => .inr (by rw [List.mem_singleton.mp hb]; exact fresh)
        exact k l2 us2 H6 (kall.free hl6) (kall.trans k6) e6 t6
end
end Sr
/-! The law's own rows that vote; all of them. -/
namespace Sr
open PySem PySem.Spec PyProof.Rows L2
local macro_rules | `(tactic| walk_at "ed") => `(tactic| repeat' (first | exact eds_nil | refine eds_cons ?_ ?_ | refine ed_tup ?_ | exact ed_i | exact ed_s | exact ed_var rfl (TD.int _) | exact ed_var rfl (TD.str _) | exact ed_var rfl (by assumption) | refine ed_add ?_ ?_ | refine ed_sub ?_ ?_))
theorem newsA_at {n : Int} {k i : Nat} (h : i < k) : (newsA n k)[i]? = some (newA n ((0 : Int) + (i : Nat))) := by
  simp [newsA, h]
section
variable {P : Program} {w : World} {K : PySem.W.Frag} {mg : Str → Option Value} {base : Heap} {f : Addr} {fd : FuncData}
abbrev s__law_q : Stmt := top 85
theorem sc__law_q : FnScope ["_law_many", "_law_e", "_law_count", "_law_copy", "_law_old", "_law_new", "_law_look", "_law_best", "_law_far", "_law_found", "_law_s", "_law_t"] ["_law_many", "_law_e", "_law_count", "_law_copy"] (defScope s__law_q) := ⟨rfl, rfl, rfl, by decide +kernel, rfl, by decide +kernel, by decide +kernel⟩
theorem ok__law_q (F : At K mg "_law_q" "_law_q" s__law_q ["_law_many", "_law_e", "_law_count", "_law_copy"] f fd) (T : Txt K mg) (g__law_stores : GF P w K mg base 1 "_law_stores" ["_law_many", "_law_copy"] sp__law_stores) :
    FnOk P w K mg base CX0 2 f fd ["_law_many", "_law_e", "_law_count", "_law_copy"] sp_piece_q := by
  refine F.fn.ok sc__law_q (fun vs H Q E h => ?_) (fun cdv A outer s H vs Q E hr h => ?_)
  · obtain ⟨n, e, k, c, rfl, _⟩ := h
    rfl
  · obtain ⟨n, e, k, c, rfl, hn, hk, hc, q⟩ := h
    refine ⟨_, (pss_cons (ps_asg (pe_gf g__law_stores (hr.mono (by decide)) rfl (pa_cons (pv 0) (pa_cons (pv 3) pa_nil))) (pg_unl rfl (pgs_cons (pg_name (i := 4) sc__law_q.nd rfl (Or.inl rfl)) (pgs_cons (pg_name (i := 5) sc__law_q.nd rfl (Or.inl rfl)) (pgs_cons (pg_name (i := 6) sc__law_q.nd rfl (Or.inl rfl)) (pgs_cons (pg_name (i := 7) sc__law_q.nd rfl (Or.inl rfl)) pgs_nil))))))
      (pss_cons (ps_set (i := 8) sc__law_q.nd rfl (Or.inl rfl) (pe_op op_add (pv 0) pe_int))
      (pss_cons (ps_set (i := 9) sc__law_q.nd rfl (Or.inl rfl) (pe_lst (pa_cons (pe_tup (pa_cons pe_str (pa_cons pe_int (pa_cons pe_int pa_nil)))) (pa_cons (pe_tup (pa_cons pe_str (pa_cons pe_int (pa_cons (pv 4) (pa_cons (pv 7) (pa_cons (pv 8) pa_nil)))))) pa_nil))))
      (pss_cons (ps_for PassesOwn.never rfl (pi_range1 rfl T.f_range (pa_cons (pv 2) pa_nil)) (pg_name (i := 10) sc__law_q.nd rfl (Or.inl rfl)) (pss_cons (ps_set (i := 9) sc__law_q.nd rfl (Or.inl rfl) (pe_op op_cat (pv 9) (pe_lst (pa_cons (pe_tup (pa_cons pe_str (pa_cons pe_int (pa_cons (pe_ix (r := rIxL K) ix_list (pe_gf g__law_stores (hr.mono (by decide)) rfl (pa_cons (pv 0) (pa_cons (pv 10) pa_nil))) pe_int (fun _ _ => rfl)) (pa_cons (pv 6) (pa_cons (pv 8) pa_nil)))))) (pa_cons (pe_tup (pa_cons pe_str (pa_cons pe_int (pa_cons (pv 6) pa_nil)))) pa_nil)))))
      (pss_cons (ps_set (i := 9) sc__law_q.nd rfl (Or.inl rfl) (pe_op op_cat (pv 9) (pe_lst (pa_cons (pe_tup (pa_cons pe_str (pa_cons pe_int (pa_cons (pe_op op_sub (pe_op op_add (pv 6) (pv 8)) pe_int) pa_nil)))) (pa_cons (pe_tup (pa_cons pe_str (pa_cons pe_int (pa_cons pe_int (pa_cons pe_int pa_nil))))) (pa_cons (pe_tup (pa_cons pe_str (pa_cons pe_int (pa_cons (pv 7) pa_nil)))) pa_nil))))))
      (pss_cons (ps_set (i := 9) sc__law_q.nd rfl (Or.inl rfl) (pe_op op_cat (pv 9) (pe_lst (pa_cons (pe_tup (pa_cons pe_str (pa_cons pe_int (pa_cons pe_int (pa_cons pe_int pa_nil))))) (pa_cons (pe_tup (pa_cons pe_str (pa_cons pe_int (pa_cons pe_int pa_nil)))) pa_nil)))))
      (pss_cons (ps_for PassesOwn.never rfl (pi_range1 rfl T.f_range (pa_cons (pv 2) pa_nil)) (pg_name (i := 11) sc__law_q.nd rfl (Or.inl rfl)) (pss_one (ps_set (i := 9) sc__law_q.nd rfl (Or.inl rfl) (pe_op op_cat (pv 9) (pe_lst (pa_cons (pe_tup (pa_cons pe_str (pa_cons pe_int (pa_cons (pv 6) (pa_cons (pe_ix (r := rIxL K) ix_list (pe_gf g__law_stores (hr.mono (by decide)) rfl (pa_cons (pv 0) (pa_cons (pv 11) pa_nil))) pe_int (fun _ _ => rfl)) (pa_cons (pv 8) pa_nil)))))) (pa_cons (pe_tup (pa_cons pe_str (pa_cons pe_int (pa_cons pe_int (pa_cons pe_int pa_nil))))) pa_nil)))))))
      (pss_cons (ps_set (i := 9) sc__law_q.nd rfl (Or.inl rfl) (pe_op op_cat (pv 9) (pe_lst (pa_cons (pe_tup (pa_cons pe_str (pa_cons pe_int (pa_cons (pv 1) pa_nil)))) (pa_cons (pe_tup (pa_cons pe_str (pa_cons pe_int (pa_cons pe_int (pa_cons pe_int pa_nil))))) (pa_cons (pe_tup (pa_cons pe_str (pa_cons pe_int (pa_cons pe_int (pa_cons pe_int pa_nil))))) (pa_cons (pe_tup (pa_cons pe_str (pa_cons pe_int (pa_cons pe_int (pa_cons pe_int pa_nil))))) pa_nil)))))))
      (pss_one (ps_expr (pe_bm PySem.F.plainAttrs_list PySem.F.slot_list_append PySem.F.type_list_append mt_append (pv 9) (pa_cons (pe_tup (pa_cons pe_str (pa_cons pe_int (pa_cons (pv 6) (pa_cons (pv 7) (pa_cons (pv 8) pa_nil)))))) pa_nil))))))))))
      (pss_one (ps_ret (pe_op op_cat (pv 9) (pe_lst (pa_cons (pe_tup (pa_cons pe_str (pa_cons pe_int (pa_cons (pv 7) (pa_cons (pv 4) (pa_cons (pv 8) pa_nil)))))) pa_nil))))))))), ?_⟩
    refine st_unl (EvL.l0 (el__law_stores (ed_var rfl (.int n)) (ed_var rfl (.int c)) hn hc)) rfl fun xs H1 k1 t1 => ?_
    have ex : xs = [V.int (oldA n c), .int (newA n c), .int (lookA n c), .int (bestA n c)] := TDs.ofInts (ns := [_, _, _, _]) t1
    subst ex
    refine ⟨_, _, rfl, ⟨_, _, rfl, ⟨_, _, rfl, ⟨_, _, rfl, rfl, ?_⟩⟩⟩⟩
    dsimp only
    refine sd_set (ed_add (ed_var rfl (.int n)) ed_i) fun v2 H2 k2 t2 => ?_
    cases t2
    dsimp only
    refine sl_set (ds := [ro "set" [24, 1], ro "move" [24, oldA n c, bestA n c, n + 2]].map rowD) (el_lst (by walk_at "ed") (Nat.le_of_ble_eq_true rfl)) fun l us H3 hl k3 e3 t3 => ?_
    have hnk : (newsA n k).length = k := by simp [newsA]
    have hfl : ∀ xs : List Int, (xs.flatMap (fun s => voteR (newsA n k) e (n + 2) (lookA n c) (bestA n c) s)).length = (12 + 2 * k) * xs.length := flatMap_len fun x => by rw [voteR_len, hnk]
    have hfl2 : ∀ xs : List Int, (xs.flatMap (fun a => [ro "alike" ([29, lookA n c, a, n + 2]), ro "add" ([28, 28, 29])])).length = 2 * xs.length := flatMap_len (fun _ => rfl)
    have kk := k1.trans k2
    have fresh : H l = none := kk.free hl
    dsimp only
    refine st_for (ei_range (n := k) (ed_var rfl (.int k)) rfl (by omega)) fun H4 k4 => ?_
    refine ⟨fun i σ' H' => ∃ m us o10 o11, σ' = [some (.int n), some (.int e), some (.int k), some (.int c), some (.int (oldA n c)), some (.int (newA n c)), some (.int (lookA n c)), some (.int (bestA n c)), some (.int (n + 2)), some (.ref m), o10, o11] ∧ (m = l ∨ H4 m = none) ∧ Kp [l] H4 H' ∧ H' m = some (.lst us) ∧
      TDs H' us (([ro "set" [24, 1], ro "move" [24, oldA n c, bestA n c, n + 2]] ++ ((newsA n k).take i).flatMap (fun s => voteR (newsA n k) e (n + 2) (lookA n c) (bestA n c) s)).map rowD), ⟨l, us, _, _, rfl, .inl rfl, Kp.refl _ _, k4.get e3, by simpa using t3.kp k4⟩, fun i σ' H' ⟨_, _, _, _, _, _, kp, _⟩ => ⟨_, kp, fun b m => nomatch m⟩, fun i x σ' H5 H5' hi hP hy => ?_, fun σ' H' hP => ?_⟩
    · obtain ⟨m, us, o10, o11, rfl, hm, kp, em, tm⟩ := hP
      obtain ⟨rfl, rfl⟩ := hy
      have hsz : ([ro "set" [24, 1], ro "move" [24, oldA n c, bestA n c, n + 2]] ++ ((newsA n k).take i).flatMap (fun s => voteR (newsA n k) e (n + 2) (lookA n c) (bestA n c) s)).length ≤ 1000 := by
        rw [List.length_append, hfl, List.length_take, hnk]
        have h2 : (12 + 2 * k) * min i k ≤ 44 * 16 := Nat.mul_le_mul (by omega) (by omega)
        simp only [List.length_cons, List.length_nil]
        omega
      have eni := newsA_at (n := n) hi
      generalize hB : [ro "set" [24, 1], ro "move" [24, oldA n c, bestA n c, n + 2]] ++ ((newsA n k).take i).flatMap (fun s => voteR (newsA n k) e (n + 2) (lookA n c) (bestA n c) s) = B0 at tm hsz
      generalize hsrc : newA n ((0 : Int) + (i : Nat)) = src at eni
      have hst : ∀ (x : Int) (σ : L2.St) (H : Hp), 0 ≤ x → x ≤ 1000 → σ[0]? = some (some (.int n)) → ∀ j, σ[j]? = some (some (.int x)) → EvD (tOp (rIxL K) (tCall sp__law_stores [] E0 (tCons (tVar 0) (tCons (tVar j) tNil))) (tC (.int 1))) σ H (.int (newA n x)) := fun x σ H h0 h1 e0 j ej =>
        ed_ixN (EvL.l0 (el__law_stores (ed_var e0 (.int n)) (ed_var ej (.int x)) hn ⟨h0, h1⟩)) ed_i at1
      show tSeq _ _ _ _ _
      refine sl_set (ds := (B0 ++ [ro "move" [24, src, lookA n c, n + 2], ro "load" [25, lookA n c]]).map rowD) ?_ fun p6 us6 H6 hp6 k6 e6 t6 => ?_
      · rw [List.map_append]
        refine el_cat (el0_var rfl em tm) (EvL.l0 (el_lst (eds_cons (ed_tup (eds_cons ed_s (eds_cons ed_i (eds_cons ?_ (by walk_at "ed"))))) (by walk_at "ed")) (Nat.le_of_ble_eq_true rfl))) (by simp; omega)
        rw [← hsrc]
        exact hst _ _ _ (by omega) (by omega) rfl 10 rfl
      dsimp only
      refine sl_set (ds := ((B0 ++ [ro "move" [24, src, lookA n c, n + 2], ro "load" [25, lookA n c]]) ++ [ro "load" [26, lookA n c + (n + 2) - 1], ro "same" [26, 25, 26], ro "load" [27, bestA n c]]).map rowD) ?_ fun p7 us7 H7 hp7 k7 e7 t7 => ?_
      · rw [List.map_append (l₁ := B0 ++ _)]
        exact el_cat (el0_var rfl e6 t6) (EvL.l0 (el_lst (ds := [ro "load" [26, lookA n c + (n + 2) - 1], ro "same" [26, 25, 26], ro "load" [27, bestA n c]].map rowD) (by walk_at "ed") (Nat.le_of_ble_eq_true rfl))) (by simp; omega)
      dsimp only
      refine sl_set (ds := (((B0 ++ [ro "move" [24, src, lookA n c, n + 2], ro "load" [25, lookA n c]]) ++ [ro "load" [26, lookA n c + (n + 2) - 1], ro "same" [26, 25, 26], ro "load" [27, bestA n c]]) ++ [ro "less" [27, 27, 25], ro "set" [28, 0]]).map rowD) ?_ fun p8 us8 H8 hp8 k8 e8 t8 => ?_
      · rw [List.map_append (l₁ := (B0 ++ _) ++ _)]
        exact el_cat (el0_var rfl e7 t7) (EvL.l0 (el_lst (ds := [ro "less" [27, 27, 25], ro "set" [28, 0]].map rowD) (by walk_at "ed") (Nat.le_of_ble_eq_true rfl))) (by simp; omega)
      have hsz2 : (((B0 ++ [ro "move" [24, src, lookA n c, n + 2], ro "load" [25, lookA n c]]) ++ [ro "load" [26, lookA n c + (n + 2) - 1], ro "same" [26, 25, 26], ro "load" [27, bestA n c]]) ++ [ro "less" [27, 27, 25], ro "set" [28, 0]]).length ≤ 1010 := by
        simp
        omega
      generalize hC : ((B0 ++ [ro "move" [24, src, lookA n c, n + 2], ro "load" [25, lookA n c]]) ++ [ro "load" [26, lookA n c + (n + 2) - 1], ro "same" [26, 25, 26], ro "load" [27, bestA n c]]) ++ [ro "less" [27, 27, 25], ro "set" [28, 0]] = C0 at t8 hsz2
      have ka := ((k6.trans k7).trans k8)
      have f8 : H4 p8 = none := (kp.trans (k6.trans k7).wid).free hp8
      dsimp only
      refine st_for (ei_range (n := k) (ed_var rfl (.int k)) rfl (by omega)) fun H9 k9 => ?_
      refine ⟨fun j σ' H' => ∃ m us o11, σ' = [some (.int n), some (.int e), some (.int k), some (.int c), some (.int (oldA n c)), some (.int (newA n c)), some (.int (lookA n c)), some (.int (bestA n c)), some (.int (n + 2)), some (.ref m), some (.int ((0 : Int) + (i : Nat))), o11] ∧ H4 m = none ∧ Kp [] H9 H' ∧ H' m = some (.lst us) ∧
        TDs H' us ((C0 ++ ((newsA n k).take j).flatMap (fun a => [ro "alike" ([29, lookA n c, a, n + 2]), ro "add" ([28, 28, 29])])).map rowD), ⟨p8, us8, _, rfl, f8, Kp.refl _ _, k9.get e8, by simpa using t8.kp k9⟩, fun i σ' H' ⟨_, _, _, _, _, kp, _⟩ => ⟨_, kp, fun b m => nomatch m⟩, fun j x σ' H10 H10' hj hP hy => ?_, fun σ' H' hP => ?_⟩
      · obtain ⟨m, us, o11, rfl, hm9, kp9, em9, tm9⟩ := hP
        obtain ⟨rfl, rfl⟩ := hy
        have enj := newsA_at (n := n) hj
        show tAsg _ _ _ _ _
        refine sl_set (ds := ((C0 ++ ((newsA n k).take j).flatMap (fun a => [ro "alike" ([29, lookA n c, a, n + 2]), ro "add" ([28, 28, 29])])) ++ [ro "alike" [29, lookA n c, newA n ((0 : Int) + (j : Nat)), n + 2], ro "add" [28, 28, 29]]).map rowD) ?_ fun p11 us11 H11 hp11 k11 e11 t11 => ?_
        · rw [List.map_append (l₁ := C0 ++ _)]
          refine el_cat (el0_var rfl em9 tm9) (EvL.l0 (el_lst (eds_cons (ed_tup (eds_cons ed_s (eds_cons ed_i (eds_cons (ed_var rfl (.int _)) (eds_cons (hst _ _ _ (by omega) (by omega) rfl 11 rfl) (by walk_at "ed")))))) (by walk_at "ed")) (Nat.le_of_ble_eq_true rfl))) ?_
          simp only [List.length_map, List.length_append, hfl2, List.length_take, hnk, List.length_cons, List.length_nil]
          omega
        · refine ⟨p11, us11, _, rfl, ?_, kp9.trans k11, e11, ?_⟩
          · exact (((kp.trans ka.wid).trans k9.wid).trans kp9.wid).free hp11
          · rw [flatMap_snoc enj, ← List.append_assoc]
            exact t11
      · obtain ⟨m9, us9, o11, rfl, hm9, kp9, em9, tm9⟩ := hP
        rw [List.take_of_length_le (by omega)] at tm9
        dsimp only
        refine sl_set (ds := ((C0 ++ (newsA n k).flatMap (fun a => [ro "alike" ([29, lookA n c, a, n + 2]), ro "add" ([28, 28, 29])])) ++ [ro "set" [29, e], ro "less" [28, 29, 28], ro "mul" [26, 26, 27], ro "mul" [26, 26, 28]]).map rowD) ?_ fun p12 us12 H12 hp12 k12 e12 t12 => ?_
        · rw [List.map_append (l₁ := C0 ++ _)]
          refine el_cat (el0_var rfl em9 tm9) (EvL.l0 (el_lst (ds := [ro "set" [29, e], ro "less" [28, 29, 28], ro "mul" [26, 26, 27], ro "mul" [26, 26, 28]].map rowD) (by walk_at "ed") (Nat.le_of_ble_eq_true rfl))) ?_
          simp only [List.length_map, List.length_append, hfl2, hnk, List.length_cons, List.length_nil]
          omega
        have kb : Kp [l] H4 H12 := (((kp.trans ka.wid).trans k9.wid).trans kp9.wid).trans k12.wid
        have f12 : H4 p12 = none := (((kp.trans ka.wid).trans k9.wid).trans kp9.wid).free hp12
        dsimp only
        refine sx_app (d := rowD (ro "move" [26, lookA n c, bestA n c, n + 2])) (ev_var rfl) e12 t12 (by walk_at "ed") ?_ fun us13 H13 e13 t13 k13 => ?_
        · simp only [List.length_map, List.length_append, hfl2, hnk, List.length_cons, List.length_nil]
          omega
        refine ⟨p12, us13, _, _, rfl, .inr f12, kb.thenM k13 fun b hb => .inr (by rw [List.mem_singleton.mp hb]; exact f12), e13, ?_⟩
        have eB : [ro "set" [24, 1], ro "move" [24, oldA n c, bestA n c, n + 2]] ++ ((newsA n k).take (i + 1)).flatMap (fun s => voteR (newsA n k) e (n + 2) (lookA n c) (bestA n c) s) = ((C0 ++ (newsA n k).flatMap (fun a => [ro "alike" ([29, lookA n c, a, n + 2]), ro "add" ([28, 28, 29])])) ++ [ro "set" [29, e], ro "less" [28, 29, 28], ro "mul" [26, 26, 27], ro "mul" [26, 26, 28]]) ++ [ro "move" [26, lookA n c, bestA n c, n + 2]] := by
          rw [flatMap_snoc eni, ← List.append_assoc, hB, ← hC]
          simp [voteR]
        rw [eB, List.map_append]
        exact t13
    · obtain ⟨m, us, o10, o11, rfl, hm, kp, em, tm⟩ := hP
      rw [List.take_of_length_le (by omega)] at tm
      dsimp only
      refine sl_ret (ds := (pieceQ n e k c).map rowD) ?_ fun l2 us2 H7 hl7 k7 e7 t7 => ?_
      · have e : (pieceQ n e k c).map rowD = ([ro "set" [24, 1], ro "move" [24, oldA n c, bestA n c, n + 2]] ++ (newsA n k).flatMap (fun s => voteR (newsA n k) e (n + 2) (lookA n c) (bestA n c) s)).map rowD ++ [rowD (ro "move" [24, bestA n c, oldA n c, n + 2])] := by
          simp [pieceQ]
        rw [e]
        refine el_cat (el0_var rfl em tm) (EvL.l0 (el_lst (by walk_at "ed") (Nat.le_of_ble_eq_true rfl))) ?_
        have h2 : (12 + 2 * k) * k ≤ 44 * 16 := Nat.mul_le_mul (by omega) hk
        simp only [List.length_map, List.length_append, hfl, hnk, List.length_cons, List.length_nil]
        omega
      · have kall : Kp [] H H' := ((kk.trans k3).trans k4).thenM kp fun b hb => .inr (by rw [List.mem_singleton.mp hb]; exact fresh)
        exact q l2 us2 H7 (kall.free hl7) (kall.trans k7) e7 t7
end
end Sr
/-! All rows of the law. -/
namespace Sr
open PySem PySem.Spec PyProof.Rows L2
theorem pieceP_len {rs : List Rec} (hg : GoodRecs rs) (c : Int) : (pieceP rs c).length ≤ 42 := by
  have h2 := recsR_len rs.length (oldA rs.length c) (newA rs.length c) rs 0 fun r m => (hg.2 r m).1
  have h3 := hg.1
  simp only [pieceP, List.length_append, countR, List.length_cons, List.length_nil]
  omega
theorem pieceQ_len (n e : Int) (k : Nat) (c : Int) : (pieceQ n e k c).length = 3 + (12 + 2 * k) * k := by
  have hnk : (newsA n k).length = k := by simp [newsA]
  have hfl : ∀ xs : List Int, (xs.flatMap (fun s => voteR (newsA n k) e (n + 2) (lookA n c) (bestA n c) s)).length = (12 + 2 * k) * xs.length := flatMap_len fun x => by rw [voteR_len, hnk]
  simp only [pieceQ, List.length_append, hfl, hnk, List.length_cons, List.length_nil]
  omega
theorem range_flat {α : Type} (g : Nat → List α) (i : Nat) : (List.range (i + 1)).flatMap g = (List.range i).flatMap g ++ g i := by
  rw [List.range_succ, List.flatMap_append]
  simp
theorem range_len {α : Type} {g : Nat → List α} {n : Nat} (hg : ∀ i, (g i).length ≤ n) (k : Nat) : ((List.range k).flatMap g).length ≤ n * k := by
  induction k with
  | zero => simp
  | succ k ih =>
    have := hg k
    rw [range_flat, List.length_append, Nat.mul_succ]
    omega
section
variable {P : Program} {w : World} {K : PySem.W.Frag} {mg : Str → Option Value} {base : Heap} {f : Addr} {fd : FuncData}
theorem el_piece_p {σ : L2.St} {H : Hp} {ta tb : TE} {E : XK} {rs : List Rec} {c : Int} (ha : EvD ta σ H (recsD rs)) (hb : EvD tb σ H (.int c)) (hg : GoodRecs rs) (hc : 0 ≤ c ∧ c ≤ 1000) : EvL (tCall sp_piece_p [] E (tCons ta (tCons tb tNil))) σ H ((pieceP rs c).map rowD) := fun H1 k Q q =>
  ha H1 k _ fun v H2 k2 t2 => ev_i hb H2 (k.trans k2) _ fun H3 k3 => ⟨v, c, rs, rfl, t2.kp k3, hg, hc, fun l us H' hl k' e t => q l us H' ((k2.trans k3).free hl) ((k2.trans k3).trans k') e t⟩
theorem el_piece_q {σ : L2.St} {H : Hp} {ta tb tc td : TE} {E : XK} {n e : Int} {k : Nat} {c : Int} (ha : EvD ta σ H (.int n)) (hb : EvD tb σ H (.int e)) (hk : EvD tc σ H (.int k)) (hd : EvD td σ H (.int c)) (hn : 0 ≤ n ∧ n ≤ 1000) (h16 : k ≤ 16) (hc : 0 ≤ c ∧ c ≤ 1000) :
    EvL (tCall sp_piece_q [] E (tCons ta (tCons tb (tCons tc (tCons td tNil))))) σ H ((pieceQ n e k c).map rowD) := fun H1 k1 Q q =>
  ev_i ha H1 k1 _ fun H2 k2 => ev_i hb H2 (k1.trans k2) _ fun H3 k3 => ev_i hk H3 ((k1.trans k2).trans k3) _ fun H4 k4 => ev_i hd H4 (((k1.trans k2).trans k3).trans k4) _ fun H5 k5 =>
    ⟨n, e, k, c, rfl, hn, h16, hc, fun l us H' hl k' e t => q l us H' ((((k2.trans k3).trans k4).trans k5).free hl) ((((k2.trans k3).trans k4).trans k5).trans k') e t⟩
abbrev s__law_rows : Stmt := top 86
theorem sc__law_rows : FnScope ["_law_given", "_law_e", "_law_count", "_law_found", "_law_copy"] ["_law_given", "_law_e", "_law_count"] (defScope s__law_rows) := ⟨rfl, rfl, rfl, by decide +kernel, rfl, by decide +kernel, by decide +kernel⟩
def sp__law_rows : Sp := fun vs H Q _ => ∃ (v : V) (e : Int) (k : Nat) (rs : List Rec), vs = [v, .int e, .int k] ∧ TD H v (recsD rs) ∧ GoodRecs rs ∧ k ≤ 16 ∧ ∀ u H', Kp [] H H' → TD H' u (.tuple ((ringR rs e k).map rowD)) → Q u H'
theorem ok__law_rows (F : At K mg "_law_rows" "_law_rows" s__law_rows ["_law_given", "_law_e", "_law_count"] f fd) (T : Txt K mg) (g__law_p : GF P w K mg base 2 "_law_p" ["_law_given", "_law_copy"] sp_piece_p)
    (g__law_q : GF P w K mg base 2 "_law_q" ["_law_many", "_law_e", "_law_count", "_law_copy"] sp_piece_q) : FnOk P w K mg base CX0 3 f fd ["_law_given", "_law_e", "_law_count"] sp__law_rows := by
  refine F.fn.ok sc__law_rows (fun vs H Q E h => ?_) (fun cdv A outer s H vs Q E hr h => ?_)
  · obtain ⟨v, e, k, rs, rfl, _⟩ := h
    rfl
  · obtain ⟨v, e, k, rs, rfl, hv, hg, hk, q⟩ := h
    refine ⟨_, (pss_cons (ps_set (i := 3) sc__law_rows.nd rfl (Or.inl rfl) (pe_lst pa_nil))
      (pss_cons (ps_for PassesOwn.never rfl (pi_range1 rfl T.f_range (pa_cons (pv 2) pa_nil)) (pg_name (i := 4) sc__law_rows.nd rfl (Or.inl rfl)) (pss_one (ps_set (i := 3) sc__law_rows.nd rfl (Or.inl rfl) (pe_op op_cat (pv 3) (pe_gf g__law_p (hr.mono (by decide)) rfl (pa_cons (pv 0) (pa_cons (pv 4) pa_nil)))))))
      (pss_cons (ps_for PassesOwn.never rfl (pi_range1 rfl T.f_range (pa_cons (pv 2) pa_nil)) (pg_name (i := 4) sc__law_rows.nd rfl (Or.inl rfl)) (pss_one (ps_set (i := 3) sc__law_rows.nd rfl (Or.inl rfl) (pe_op op_cat (pv 3) (pe_gf g__law_q (hr.mono (by decide)) rfl (pa_cons (pe_callB (r := rLen K) call_len_seq rfl T.f_len PySem.boot_len (pa_cons (pv 0) pa_nil)) (pa_cons (pv 1) (pa_cons (pv 2) (pa_cons (pv 4) pa_nil)))))))))
      (pss_one (ps_ret (pe_callTy call_tuple_of rfl T.f_tuple (by decide +kernel) (pa_cons (pv 3) pa_nil))))))), ?_⟩
    have hpl : ∀ i : Nat, ((fun (c : Nat) => pieceP rs c) i).length ≤ 42 := fun i => pieceP_len hg i
    have hql : ∀ i : Nat, ((fun (c : Nat) => pieceQ rs.length e k c) i).length ≤ 707 := fun i => by
      have h2 : (12 + 2 * k) * k ≤ 44 * 16 := Nat.mul_le_mul (by omega) hk
      rw [pieceQ_len]
      omega
    refine sl_set (ds := []) (el_lst eds_nil (Nat.zero_le _)) fun l us H1 hl k1 e1 t1 => ?_
    dsimp only
    refine st_for (ei_range (n := k) (ed_var rfl (.int k)) rfl (by omega)) fun H2 k2 => ?_
    refine ⟨fun i σ' H' => ∃ m us o, σ' = [some v, some (.int e), some (.int k), some (.ref m), o] ∧ Kp [] H2 H' ∧ H' m = some (.lst us) ∧ TDs H' us (((List.range i).flatMap (fun (c : Nat) => pieceP rs c)).map rowD), ⟨l, us, _, rfl, Kp.refl _ _, k2.get e1, t1.kp k2⟩,
      fun i σ' H' ⟨_, _, _, _, kp, _⟩ => ⟨[], kp, fun b m => nomatch m⟩, fun i x σ' H3 H3' hi hP hy => ?_, fun σ' H' hP => ?_⟩
    · obtain ⟨m, us, o, rfl, kp, em, tm⟩ := hP
      obtain ⟨rfl, rfl⟩ := hy
      show tAsg _ _ _ _ _
      refine sl_set (ds := ((List.range (i + 1)).flatMap (fun (c : Nat) => pieceP rs c)).map rowD) ?_ fun p us3 H4 hp k4 e4 t4 => ⟨p, us3, _, rfl, kp.trans k4, e4, t4⟩
      rw [range_flat, List.map_append]
      have ez : (0 : Int) + (i : Nat) = ((i : Nat) : Int) := Int.zero_add _
      refine el_cat (el0_var rfl em tm) (EvL.l0 ?_) ?_
      · exact el_piece_p (ed_var rfl (hv.kp ((k1.trans k2).trans kp))) (ed_var rfl (ez ▸ TD.int _)) hg (by omega)
      · have h1 := range_len hpl i
        have h2 : (pieceP rs (i : Nat)).length ≤ 42 := hpl i
        have h3 : 42 * i ≤ 42 * 16 := Nat.mul_le_mul (Nat.le_refl _) (by omega)
        simp only [List.length_map]
        omega
    · obtain ⟨m, us, o, rfl, kp, em, tm⟩ := hP
      dsimp only
      refine st_for (ei_range (n := k) (ed_var rfl (.int k)) rfl (by omega)) fun H5 k5 => ?_
      refine ⟨fun i σ' H' => ∃ m us o, σ' = [some v, some (.int e), some (.int k), some (.ref m), o] ∧ Kp [] H5 H' ∧ H' m = some (.lst us) ∧ TDs H' us (((List.range k).flatMap (fun (c : Nat) => pieceP rs c) ++ (List.range i).flatMap (fun (c : Nat) => pieceQ rs.length e k c)).map rowD), ⟨m, us, _, rfl, Kp.refl _ _, k5.get em, by simpa using tm.kp k5⟩,
        fun i σ' H' ⟨_, _, _, _, kp, _⟩ => ⟨[], kp, fun b m => nomatch m⟩, fun i x σ' H6 H6' hi hP hy => ?_, fun σ' H' hP => ?_⟩
      · obtain ⟨m, us, o, rfl, kp6, em6, tm6⟩ := hP
        obtain ⟨rfl, rfl⟩ := hy
        show tAsg _ _ _ _ _
        refine sl_set (ds := ((List.range k).flatMap (fun (c : Nat) => pieceP rs c) ++ (List.range (i + 1)).flatMap (fun (c : Nat) => pieceQ rs.length e k c)).map rowD) ?_ fun p us3 H7 hp k7 e7 t7 => ⟨p, us3, _, rfl, kp6.trans k7, e7, t7⟩
        rw [range_flat, ← List.append_assoc, List.map_append]
        have ez : (0 : Int) + (i : Nat) = ((i : Nat) : Int) := Int.zero_add _
        have hv6 := hv.kp (((k1.trans k2).trans kp).trans (k5.trans kp6))
        have hl : EvD (tCB (rLen K) (tCons (tVar 0) tNil)) [some v, some (.int e), some (.int k), some (.ref m), some (.int ((0 : Int) + (i : Nat)))] H6' (.int (rs.map recD).length) := ed_lenT (ed_var rfl hv6)
        rw [List.length_map] at hl
        refine el_cat (el0_var rfl em6 tm6) (EvL.l0 ?_) ?_
        · refine el_piece_q hl (ed_var rfl (.int e)) (ed_var rfl (.int k)) (ed_var rfl (ez ▸ TD.int _)) (by have := hg.1; omega) hk (by omega)
        · have h1 := range_len hpl k
          have h2 := range_len hql i
          have h3 : 42 * k ≤ 42 * 16 := Nat.mul_le_mul (Nat.le_refl _) (by omega)
          have h4 : 707 * i ≤ 707 * 16 := Nat.mul_le_mul (Nat.le_refl _) (by omega)
          have h5 : (pieceQ rs.length e k (i : Nat)).length ≤ 707 := hql i
          simp only [List.length_map, List.length_append]
          omega
      · obtain ⟨m, us, o, rfl, kp6, em6, tm6⟩ := hP
        exact sd_ret (ed_tupleL (el0_var rfl em6 tm6)) fun u H7 k7 t7 => q u H7 ((((k1.trans k2).trans kp).trans (k5.trans kp6)).trans k7) t7
theorem ed__law_rows {σ : L2.St} {H : Hp} {ta tb tc : TE} {E : XK} {rs : List Rec} {e : Int} {k : Nat} (ha : EvD ta σ H (recsD rs)) (hb : EvD tb σ H (.int e)) (hc : EvD tc σ H (.int k)) (hg : GoodRecs rs) (hk : k ≤ 16) :
    EvD (tCall sp__law_rows [] E (tCons ta (tCons tb (tCons tc tNil)))) σ H (.tuple ((ringR rs e k).map rowD)) := fun H1 k1 Q q =>
  ha H1 k1 _ fun v H2 k2 t2 => ev_i hb H2 (k1.trans k2) _ fun H3 k3 => ev_i hc H3 ((k1.trans k2).trans k3) _ fun H4 k4 => ⟨v, e, k, rs, rfl, t2.kp (k3.trans k4), hg, hk, fun u H' k' t => q u H' (((k2.trans k3).trans k4).trans k') t⟩
end
end Sr
/-! A comprehension over lists of lists; sums of lists that are walked. -/
namespace Sr
open PySem PySem.Spec PyProof.Rows L2
def EvI0 (wi : TI) (σ : L2.St) (H : Hp) (n : Nat) (Y : Nat → Hp → V → Hp → Prop) : Prop := ∀ H1, Kp [] H H1 → ∀ R : It → Hp → Prop,
  (∀ (J : It) (H2 : Hp) (G : Hp → Prop), Kp [] H1 H2 → Walk J n G Y → (∀ H3, Kp [] H2 H3 → G H3) → R J H2) → wi σ H1 R
theorem tYesT {σ : L2.St} {H : Hp} {A B : Hp → Prop} (h : A H) : tYes σ H (fun b H3 => if b = true then A H3 else B H3) := by
  show if true = true then A H else B H
  rw [if_pos rfl]
  exact h
section
variable {K : PySem.W.Frag} {σ : L2.St} {H H' : Hp} {ta tb te : TE} {i j n : Nat} {xs ys : List V} {a b : Addr} {wi : TI} {Z : List Addr} {Y : Nat → Hp → V → Hp → Prop}
theorem EvI.i0 (h : EvI wi σ H n Z Y) : EvI0 wi σ H n Y := fun H1 k R q => h H1 k R fun J H2 G k2 w hG => q J H2 G k2 w fun H3 k3 => hG [] H3 k3 fun _ _ m => nomatch m
theorem ei_cat (ha : EvV ta σ H (.ref a)) (hb : EvV tb σ H (.ref b)) (h1 : H a = some (.lst xs)) (h2 : H b = some (.lst ys)) (hz : xs.length + ys.length ≤ 100000) : EvI0 (iList K (tOp rCat ta tb)) σ H (xs ++ ys).length (YAt (xs ++ ys)) := fun H1 k R q =>
  ha H1 k _ fun H2 k2 => hb H2 (k.trans k2) _ fun H3 k3 => ⟨a, b, xs, ys, rfl, rfl, ((k.trans k2).trans k3).get h1, ((k.trans k2).trans k3).get h2, le_line hz, fun p hp =>
    ⟨p, rfl, ⟨_, SqL.of upd_same⟩, q _ _ _ ((k2.trans k3).newT hp) (walk_list (K := K) (a := p)) fun H4 k4 => SqL.of (k4.get upd_same)⟩⟩
theorem TDs.rep {vs : List V} {ds : List PyData} (r : TDs H vs ds) : ∀ n : Nat, TDs H (List.replicate n vs).flatten (List.replicate n ds).flatten
  | 0 => .nil
  | n + 1 => by
    rw [List.replicate_succ, List.replicate_succ, List.flatten_cons, List.flatten_cons]
    exact r.app (TDs.rep r n)
theorem ed_repT {ds : List PyData} {x : Int} (ha : EvD ta σ H (.tuple ds)) (hb : EvD tb σ H (.int x)) (hd : ds ≠ []) (h1 : 2 ≤ x) (h2 : x ≤ 1000) (h3 : ds.length ≤ 1000) : EvD (tOp (rRepT K) ta tb) σ H (.tuple (List.replicate x.toNat ds).flatten) := fun H1 k Q q =>
  ha H1 k _ fun v H2 k2 t2 => ev_i hb H2 (k.trans k2) _ fun H3 k3 => by
    obtain ⟨a, vs, rfl, ea, ra⟩ := (t2.kp k3).tupI
    refine ⟨a, x, vs, rfl, rfl, SqT.of ea, fun z => hd (List.eq_nil_of_length_eq_zero (by rw [← ra.len, z]; rfl)), h1, h2, by rw [ra.len]; exact h3, fun p hp => q _ _ ((k2.trans k3).newT hp) (.tup upd_same ((ra.rep _).kp (Kp.new (S := []) hp)))⟩
theorem el_lc2 {dss : List (List PyData)} {vs vs1 : List Nat} {j1 j2 : Nat} (hi : EvI0 wi σ H n (YAt xs)) (hxn : xs.length = n) (hdn : dss.length = n) (hx : ∀ (i : Nat) (v : V), xs[i]? = some v → ∃ l us ds, v = .ref l ∧ H l = some (.lst us) ∧ TDs H us ds ∧ dss[i]? = some ds) (hsz : dss.flatten.length ≤ 100000)
    (hw1 : ∀ x, wipe ((wipe σ vs).set j1 (some x)) vs = wipe σ vs) (hj1 : ∀ x, ((wipe σ vs).set j1 (some x))[j1]? = some (some x))
    (hw2 : ∀ x y, wipe ((wipe ((wipe σ vs).set j1 (some x)) vs1).set j2 (some y)) vs1 = wipe ((wipe σ vs).set j1 (some x)) vs1) (hj2 : ∀ x y, ((wipe ((wipe σ vs).set j1 (some x)) vs1).set j2 (some y))[j2]? = some (some y)) :
    EvL (tLc2 wi (gName j1) tYes (iList K (tVar j1)) (gName j2) tYes (tVar j2) vs vs1) σ H dss.flatten := fun H1 k1 Q q => hi H1 k1 _ fun J H2 G k2 w hG D hD => by
  refine ⟨fun i m H' => m = n - i ∧ i ≤ n ∧ ∃ us, Kp [] H2 H' ∧ H' D = some (.lst us) ∧ TDs H' us (dss.take i).flatten, ⟨n, rfl, Nat.zero_le _, [], Kp.new hD, upd_same, .nil⟩, ?_⟩
  rintro i m H' ⟨rfl, hin, us, k3, e3, t3⟩
  have g3 := hG H' k3
  have kH := (k1.trans k2).trans k3
  by_cases hlt : i < n
  · refine .inr ⟨w.goes i H' hlt g3, fun H4 => ∃ us, Kp [] H2 H4 ∧ H4 D = some (.lst us) ∧ TDs H4 us (dss.take (i + 1)).flatten, fun H4 p => ⟨n - (i + 1), by omega, rfl, hlt, p⟩, fun x H4 y => ?_⟩
    obtain ⟨rfl, hxi⟩ := w.yields i H' x H4 hlt g3 y
    obtain ⟨l, ul, ds, rfl, hl, tl, hds⟩ := hx i x hxi
    have hl4 := kH.get hl
    have tl4 := tl.kp kH
    have hflat : (dss.take (i + 1)).flatten = (dss.take i).flatten ++ ds := by
      rw [List.take_add_one, hds]
      simp
    have hmax : ((dss.take i).flatten ++ ds).length ≤ 100000 := by
      rw [← hflat]
      refine Nat.le_trans ?_ hsz
      conv => rhs; rw [← List.take_append_drop (i + 1) dss]
      rw [List.flatten_append, List.length_append]
      exact Nat.le_add_right _ _
    rw [List.length_append] at hmax
    refine ⟨hw1 _, ?_⟩
    refine tYesT ?_
    refine ⟨_, hj1 _, l, rfl, ⟨ul, SqL.of hl4⟩, fun j k H5 => k = ul.length - j ∧ j ≤ ul.length ∧ Kp [] H2 H5 ∧ H5 D = some (.lst (us ++ ul.take j)) ∧ TDs H5 (us ++ ul.take j) ((dss.take i).flatten ++ ds.take j), ⟨ul.length, rfl, Nat.zero_le _, k3, by simpa using e3, by simpa using t3⟩, ?_⟩
    rintro j m H5 ⟨rfl, hj, k5, e5, t5⟩
    have kH5 : Kp [] H H5 := (k1.trans k2).trans k5
    have hl5 := kH5.get hl
    by_cases hjl : j < ul.length
    · refine .inr ⟨⟨ul, ul[j], SqL.of hl5, List.getElem?_eq_getElem hjl⟩, fun H6 => j + 1 ≤ ul.length ∧ Kp [] H2 H6 ∧ H6 D = some (.lst (us ++ ul.take (j + 1))) ∧ TDs H6 (us ++ ul.take (j + 1)) ((dss.take i).flatten ++ ds.take (j + 1)), fun H6 p => ⟨ul.length - (j + 1), by omega, rfl, p⟩, fun z H6 y => ?_⟩
      obtain ⟨rfl, hz⟩ := y
      have hz := hz ul (SqL.of hl5)
      refine ⟨hw2 _ _, ?_⟩
      refine tYesT ?_
      have ez : ul.take (j + 1) = ul.take j ++ [z] := by rw [List.take_add_one, hz]; rfl
      have hlen : us.length = (dss.take i).flatten.length := t3.len
      have hul := tl.len
      refine ⟨z, hj2 _ _, _, e5, lt_line ?_, hjl, ?_, ?_, ?_⟩
      · rw [List.length_append, List.length_take]
        omega
      · exact k5.chg hD
      · rw [ez, ← List.append_assoc]
        exact upd_same
      · have kD : Kp [D] H6 (upd H6 D (.lst ((us ++ ul.take j) ++ [z]))) := Kp.put (List.mem_singleton.mpr rfl) e5 fun xs z => HO.noConfusion z
        obtain ⟨d, hd1, hd2⟩ := (tl.kp kH5).at hz
        have ed : ds.take (j + 1) = ds.take j ++ [d] := by rw [List.take_add_one, hd1]; rfl
        rw [ez, ed, ← List.append_assoc, ← List.append_assoc]
        exact (t5.app (.one hd2)).kp kD
    · have ej : j = ul.length := by omega
      subst ej
      rw [List.take_length] at e5 t5
      rw [tl.len, List.take_length] at t5
      exact .inl ⟨⟨ul, SqL.of hl5, Nat.le_refl _⟩, us ++ ul, k5, e5, by rw [hflat]; exact t5⟩
  · have e : i = n := by omega
    subst e
    rw [← hdn, List.take_length] at t3
    exact .inl ⟨w.stops H' g3, q D us H' (k2.free hD) (k2.trans k3) e3 t3⟩
end
end Sr
/-! Defs that may ask repr: a promise where no container is being shown. -/
namespace Sr
open PySem PySem.Spec PyProof.Rows L2

structure FnG (P : Program) (w : World) (K : PySem.W.Frag) (mg : Str → Option Value) (base : Heap) (k : Nat) (f : Addr) (fd : FuncData) (ps : List Str) (sp : Sp) : Prop where
  len : ∀ vs H Q E, sp vs H Q E → vs.length = ps.length
  run : ∀ (A : Around) (outer : List Env) (s : Shared) (H : Hp) (args : Args) (us : List Value) (vs : List V) (Q : VK) (E : XK), A.guards = some [] → Room k A → Env0 P w K mg base A outer s H →
    BindsTo s fd args (ps.zip us) → Vals vs us → sp vs H Q E → codeAny (model P w) A (.call (.ref f) args) (CR CX0 outer P w H s Q E) s
section
variable {P : Program} {w : World} {K : PySem.W.Frag} {mg : Str → Option Value} {base : Heap} {j k : Nat} {f : Addr} {fd : FuncData} {ps : List Str} {sp : Sp} {x qual : Str} {st : Stmt} {N : List Str}
theorem FnG.ofOk (F : FnOk P w K mg base CX0 k f fd ps sp) : FnG P w K mg base k f fd ps sp := ⟨F.len, fun A outer s H args us vs Q E _ => F.run A outer s H args us vs Q E⟩
theorem FnG.mono (F : FnG P w K mg base j f fd ps sp) (h : j ≤ k) : FnG P w K mg base k f fd ps sp := ⟨F.len, fun A outer s H args us vs Q E g r => F.run A outer s H args us vs Q E g (r.mono h)⟩
/-- the rule of a def -/
theorem fnG (F : Fun K x qual st f fd) (S : FnScope N ps (defScope st)) (len : ∀ vs H Q E, sp vs H Q E → vs.length = ps.length)
    (hbody : ∀ (cdv : Value) (A : Around) (outer : List Env) (s : Shared) (H : Hp) (vs : List V) (Q : VK) (E : XK), A.guards = some [] → Room k (A.deeper (envOfC qual (defScope st) s.heap.objs.size f cdv)) → sp vs H Q E →
      ∃ t, PSs (cxOf CX0 P w K mg base N qual (defScope st) f cdv A outer s H E).nox (defBody st) t ∧ t { nx := fun _ H' => Q .non H', rt := Q } (L2.start N vs) H) : FnG P w K mg base (k + 1) f fd ps sp := by
  obtain ⟨oc, od, kV, doc, pm, an, cdv, ct, osl, rfl, lk, hcd⟩ := F.ex
  refine ⟨len, fun A outer s H args us vs Q E hgu room st0 bnd rv prom => ?_⟩
  have size := len vs H Q E prom
  have inK : K.In s.heap := st0.mod.kin.keeps fun b o e => (st0.bs b o e).1
  have places : ∀ y ∈ ps.zip us, (defScope st).names.lookup y.1 = some .local ∨ ((defScope st).names.lookup y.1 = some .cell ∧ ((cellsFrom (s.heap.objs.size + 1) (defScope st).names []).lookup y.1).isSome = true) := by
    rintro ⟨n, v⟩ hy
    exact (S.par n (List.of_mem_zip hy).1).imp id fun q => ⟨q, PySem.W.cellsFrom_some _ _ _ (.inl q)⟩
  refine codeAny_call_function room.depth (inK _ _ lk) rfl S.co S.gen rfl (PySem.W.codeRec_of inK hcd) (bnd _ _ _ _ (wpAny_newFunctionEnv_cells S.kind places fun env he s1 made => ?_))
  cases he
  refine ⟨(st0.mod.nolimit.keeps fun b o e => (st0.bs b o e).1).keeps made.toInCall.keep, codeAny_func ?_⟩
  obtain ⟨t, body, read⟩ := hbody cdv A outer s H vs Q E hgu (room.deeper _) prom
  refine wpAny_mono (body.nox.run [] s1 (L2.start N vs) H _ (inv_start (CX := CX0) S room.hd st0 size rv made) read) (fun fl s' ends => ?_) fun _ _ z => z
  match fl, ends with
  | .ret u, ⟨v, σ', H', J, r, q⟩ => exact ⟨v, H', J.os, J.bare, J.base, J.hok, r, q⟩
  | .next, ⟨σ', H', J, q⟩ => exact ⟨.non, H', J.os, J.bare, J.base, J.hok, rfl, q⟩
  | .brk, ⟨_, _, _, q⟩ => exact q.elim
  | .cont, ⟨_, _, _, q⟩ => exact q.elim
end
/-- its call -/
theorem runG {X : Cx} {k : Nat} {f : Addr} {fd : FuncData} {ps : List Str} {sp : Sp} {pins : List (Addr × Obj)} {σ : L2.St} {H : Hp} {s : Shared} {Q : VK} {E : XK} {args : Args} {us : List Value} {vs : List V} (F : FnG X.prog X.w X.K X.mg X.base k f fd ps sp) (hg : X.A.guards = some [])
    (hr : Room k X.A) (I : Inv X pins σ H s) (hb : BindsTo s fd args (ps.zip us)) (r : Vals vs us) (h : sp vs H Q E) : wpAny (model X.prog X.w) X.A (call (.ref f) args.pos args.kw) (EP X pins σ Q) X.xe s := by
  refine wpAny_call (codeAny_mono (F.run X.A X.stack s H args us vs Q E hg hr I.env0 hb r h) fun res s' ends => ?_)
  match res, ends with
  | .ok (.ret u), e => exact I.after e
  | .ok .next, e => exact e.elim
  | .ok .brk, e => exact e.elim
  | .ok .cont, e => exact e.elim
  | .error _, e => exact e.elim
structure GFG (P : Program) (w : World) (K : PySem.W.Frag) (mg : Str → Option Value) (base : Heap) (k : Nat) (x : Str) (ps : List Str) (sp : Sp) : Prop where
  ex : ∃ (f : Addr) (fd : FuncData), mg x = some (.ref f) ∧ PySem.W.keepIn K (.ref f) = true ∧ Binds K fd ps [] ∧ FnG P w K mg base k f fd ps sp
structure GMG (P : Program) (w : World) (K : PySem.W.Frag) (mg : Str → Option Value) (base : Heap) (k : Nat) (C : Addr) (m : Str) (ps : List Str) (sp : Sp) : Prop where
  cl : Cls K C
  ex : ∃ (f : Addr) (fd : FuncData), Meth K C m f ∧ Binds K fd ps [] ∧ FnG P w K mg base k f fd ps sp
section
variable {X : Cx} {k : Nat} {x m : Str} {ps : List Str} {sp : Sp} {p pos apos : Pos} {e o : Expr} {es : List Expr} {t : TA} {ta : TE} {C : Addr}
theorem pe_gfG (G : GFG X.prog X.w X.K X.mg X.base k x ps sp) (hgu : X.A.guards = some []) (hr : Room k X.A) (hg : Gl X x) (ha : PA X (e :: es) t)
    (hdb : (x == ("__debug__" : Str)) = false := by decide) (he : starEach (e :: es) X.env = (false, eval e X.env) :: starEach es X.env := by rfl) (hpl : (backTo pos (starEach es X.env)).any (·.1) = false := by rfl) :
    PE X (.Call (.Name x p) (e :: es) [] pos) (tCall sp [] E0 t) := ⟨fun pins s σ H Q I h => by
  obtain ⟨f, fd, hm, hk, hb, F⟩ := G.ex
  refine wpAny_Call_Name_kw (ld_glob I hg hm (PySem.W.callWith_K (h₀ := X.base) I.ok.mod.kin hk (thn (ha.run pos pins s σ H _ I h) fun us s1 ⟨vs, H1, I1, r, q⟩ => ⟨I1.kIn, ?_⟩) he hpl) hdb)
  have hl : (us ++ []).length = ps.length := (r.append .nil).length.symm.trans (F.len _ _ _ _ q)
  exact runG (args := ⟨us, []⟩) F hgu hr I1 (hb s1 us I1.kIn hl) (r.append .nil) q⟩
theorem pe_gmG {pl : Sem Bool} (G : GMG X.prog X.w X.K X.mg X.base k C m ps sp) (hgu : X.A.guards = some []) (hr : Room k X.A) (he : PE X o ta) (ha : PA X (e :: es) t)
    (hst : starEach (e :: es) X.env = (false, eval e X.env) :: starEach es X.env := by rfl) (hpl : (backTo pos (starEach es X.env)).any (·.1) = false := by rfl)
    (ht : eval (.Call (.Attribute o m apos) (e :: es) [] pos) X.env = (do
      let ov ← eval o X.env
      standAt apos.atName
      let (g, first) ← holding [ov] (getMethod ov m pl)
      callWith pos g first (backTo pos (starEach (e :: es) X.env)) (backToKw pos (keywordEach [] X.env))) := by rfl) :
    PE X (.Call (.Attribute o m apos) (e :: es) [] pos) (tMeth C m sp [] E0 ta t) := ⟨fun pins s σ H Q I h => by
  obtain ⟨f, fd, hm, hb, F⟩ := G.ex
  refine PySem.W.methodCall_KW (pl := pl) (thn (he.run pins s σ H _ I h) fun u s1 ⟨x, H1, I1, rx, a, dx, fs, ex, ea, l, q⟩ => ?_) ht
  cases ex
  cases rx
  refine getmeth_ok I1 ea G.cl hm l (PySem.W.callWith_K (first := [.ref a]) (h₀ := X.base) I.ok.mod.kin hm.kp (thn (ha.run pos pins s1 σ H1 _ I1 q) fun us s2 ⟨vs, H2, I2, r, q2⟩ => ⟨I2.kIn, ?_⟩) hst hpl)
  have r2 : Vals (V.ref a :: (vs ++ [])) (Value.ref a :: (us ++ [])) := .cons rfl (r.append .nil)
  have hl : (Value.ref a :: us ++ []).length = ps.length := r2.length.symm.trans (F.len _ _ _ _ q2)
  exact runG (args := ⟨.ref a :: us, []⟩) F hgu hr I2 (hb s2 (.ref a :: us) I2.kIn hl) r2 q2⟩
theorem pe_gm0G {pl : Sem Bool} (G : GMG X.prog X.w X.K X.mg X.base k C m ps sp) (hgu : X.A.guards = some []) (hr : Room k X.A) (he : PE X o ta)
    (ht : eval (.Call (.Attribute o m apos) [] [] pos) X.env = (do
      let ov ← eval o X.env
      standAt apos.atName
      let (g, first) ← holding [ov] (getMethod ov m pl)
      callWith pos g first (backTo pos (starEach [] X.env)) (backToKw pos (keywordEach [] X.env))) := by rfl) :
    PE X (.Call (.Attribute o m apos) [] [] pos) (tMeth C m sp [] E0 ta tNil) := ⟨fun pins s σ H Q I h => by
  obtain ⟨f, fd, hm, hb, F⟩ := G.ex
  refine PySem.W.methodCall_KW (pl := pl) (thn (he.run pins s σ H _ I h) fun u s1 ⟨x, H1, I1, rx, a, dx, fs, ex, ea, l, q⟩ => ?_) ht
  cases ex
  cases rx
  have r2 : Vals [V.ref a] [Value.ref a] := .cons rfl .nil
  have hl : ([Value.ref a] ++ []).length = ps.length := r2.length.symm.trans (F.len _ _ _ _ q)
  exact getmeth_ok I1 ea G.cl hm l (PySem.W.callWith_K0 (first := [.ref a]) I1.kIn hm.kp (runG (args := ⟨[.ref a], []⟩) F hgu hr I1 (hb s1 [.ref a] I1.kIn hl) r2 q))⟩
end
end Sr
/-! repr of data. -/
namespace Sr
open PySem PySem.Spec PyProof.Rows L2
/-- data that repr can show: its depth at most n, its weight at most m -/
structure Sho (n m : Nat) (d : PyData) : Prop where
  lay : d.canLay0 = true
  dep : d.depth ≤ n
  shi : d.intsShort 13 = true
  sho : d.showable = true
  wei : d.weight ≤ m
theorem Sho.shp {n m : Nat} {d : PyData} (h : Sho n m d) : Shp n d := ⟨h.lay, h.dep⟩
theorem Sho.mono {n m n' m' : Nat} {d : PyData} (h : Sho n m d) (a : n ≤ n') (b : m ≤ m') : Sho n' m' d := ⟨h.lay, Nat.le_trans h.dep a, h.shi, h.sho, Nat.le_trans h.wei b⟩
theorem Sho.none {n m : Nat} : Sho n m .none := ⟨rfl, Nat.zero_le _, rfl, rfl, Nat.zero_le _⟩
theorem Sho.int {n : Nat} {i : Int} (h : i.natAbs < 10 ^ 12) : Sho n 64 (.int i) := by
  have h2 : i.natAbs.log2 ≤ 40 := by
    by_cases z : i.natAbs = 0
    · rw [z]; decide
    · have := (Nat.log2_lt z (k := 41)).mpr (Nat.lt_trans h (by decide))
      omega
  refine ⟨rfl, Nat.zero_le _, ?_, ?_, ?_⟩
  · show decide _ = true
    exact decide_eq_true (PyData.shown_int_le h)
  · show decide _ = true
    exact decide_eq_true (by omega)
  · show (if i == 0 then 0 else i.natAbs.log2 + 1) ≤ 64
    split <;> omega
theorem Sho.str {n m : Nat} {x : Str} (h : PyData.strOk x = true) (h2 : x.cps.size ≤ m) : Sho n m (.str x) := ⟨h, Nat.zero_le _, rfl, rfl, h2⟩
structure ShoL (n m : Nat) (ds : List PyData) : Prop where
  lay : PyData.canLayAll0 ds = true
  dep : PyData.depthAll ds ≤ n
  shi : PyData.intsShortAll 13 ds = true
  sho : PyData.showableAll ds = true
  wei : PyData.weightAll ds ≤ m
theorem ShoL.of {n m : Nat} : ∀ {ds : List PyData}, (∀ d ∈ ds, Sho n m d) → ShoL n ((m + 1) * ds.length) ds
  | [], _ => ⟨rfl, Nat.zero_le _, rfl, rfl, Nat.zero_le _⟩
  | d :: ds, h => by
    have a := h d List.mem_cons_self
    have b := ShoL.of (ds := ds) fun e q => h e (List.mem_cons_of_mem _ q)
    refine ⟨?_, ?_, ?_, ?_, ?_⟩
    · rw [PyData.canLayAll0, a.lay, b.lay]; rfl
    · rw [PyData.depthAll]; exact Nat.max_le.mpr ⟨a.dep, b.dep⟩
    · rw [PyData.intsShortAll, a.shi, b.shi]; rfl
    · rw [PyData.showableAll, a.sho, b.sho]; rfl
    · have h1 := a.wei
      have h2 := b.wei
      rw [PyData.weightAll, List.length_cons, Nat.mul_succ]
      omega
theorem Sho.tup {n m k : Nat} {ds : List PyData} (h : ∀ d ∈ ds, Sho n m d) (hk : (m + 1) * ds.length ≤ k) : Sho (n + 1) k (.tuple ds) := let r := ShoL.of h; ⟨r.lay, Nat.succ_le_succ r.dep, r.shi, r.sho, Nat.le_trans r.wei hk⟩
theorem Sho.lst {n m k : Nat} {ds : List PyData} (h : ∀ d ∈ ds, Sho n m d) (hk : (m + 1) * ds.length ≤ k) : Sho (n + 1) k (.list ds) := let r := ShoL.of h; ⟨r.lay, Nat.succ_le_succ r.dep, r.shi, r.sho, Nat.le_trans r.wei hk⟩
theorem Sho.fits {n m : Nat} {d : PyData} (h : Sho n m d) (hm : m ≤ 1000000) : d.shown.length ≤ sizeLine :=
  PyData.shown_fits (B := 13) (by decide) (by decide) (PyData.leavesShort_of_canLay0 13 d h.lay h.shi) (Nat.le_trans h.wei (Nat.le_trans hm (by decide)))
def rRepr (K : PySem.W.Frag) : List V → Hp → VK → Prop := fun xs H Q => ∃ (a : Addr) (d : PyData), xs = [.ref a] ∧ Dp K H (.ref a) d ∧ Sho 60 1000000 d ∧ Q (.str d.shown) H
theorem call_reprD {X : Cx} {k : Nat} (hg : X.A.guards = some []) (hr : Room k X.A) : CallR X (.builtin "repr") (rRepr X.K) := by
  intro pins s σ H xs us Q I r h
  obtain ⟨a, d, rfl, hd, hs, q⟩ := h
  obtain ⟨u, rfl, rx⟩ := vals1 r
  cases rx
  obtain ⟨as, rd⟩ := Dp.reads I d _ _ hd rfl
  have hu := hr.units
  have hdp := hs.dep
  exact PySem.repr_of_reads' rd hs.sho (PyData.noDict_hsm (PyData.hasDict_of_canLay d hs.lay)) hg (by omega) (fun _ _ e => e) (fun h' u tk hk => ⟨.str d.shown, H, I.kept hk, ⟨u, rfl⟩, q⟩) (hs.fits (Nat.le_refl _))
section
variable {K : PySem.W.Frag} {σ : L2.St} {H : Hp} {ta tb : TE} {d : PyData} {ds : List PyData}
theorem ed_repr (ha : EvD ta σ H (.tuple ds)) (hs : Sho 60 1000000 (.tuple ds)) : EvD (tCB (rRepr K) (tCons ta tNil)) σ H (.str (PyData.tuple ds).shown) := fun H1 k Q q =>
  ha H1 k _ fun v H2 k2 t2 => by
    have td := t2.dp (K := K)
    obtain ⟨p, xs, rfl, _⟩ := t2.tupI
    exact ⟨p, _, rfl, td, hs, q _ H2 k2 (.str _)⟩
end
end Sr
/-! Fields. -/
namespace Sr
open PySem PySem.Spec PyProof.Rows L2
abbrev Fs := List (Str × V)
section
variable {K : PySem.W.Frag} {σ : L2.St} {H H' : Hp} {to tv te : TE} {p C dx l : Addr} {fs : Fs} {f : Str} {d : PyData} {ds : List PyData} {v : V} {D : Ends} {x y : Int}
theorem notup {C dx : Addr} {fs : Fs} : ∀ xs, HO.ins C dx fs ≠ .tup xs := fun _ z => HO.noConfusion z
/-- o.f = data, a known value, a new list -/
theorem sf_d (hv : EvD tv σ H d) (ho : EvV to σ H (.ref p)) (hp : H p = some (.ins C dx fs)) (cl : Cls K C) (na : NoAttr K C f) (n : ∀ v H1, Kp [p] H H1 → TD H1 v d → H1 p = some (.ins C dx (putF f v fs)) → D.nx σ H1) (hl0 : Nat.ble fs.length 999 = true := by rfl) : sFld K to tv f D σ H :=
  hv H (Kp.refl _ _) _ fun v H1 k1 t1 => ho H1 k1 _ fun H2 k2 => by
    have e := (k1.trans k2).get hp
    have k3 : Kp [p] H2 (upd H2 p (.ins C dx (putF f v fs))) := Kp.put (List.mem_singleton.mpr rfl) e notup
    exact ⟨p, C, dx, fs, rfl, e, cl, na, Nat.lt_succ_of_le (Nat.le_of_ble_eq_true hl0), n v _ ((k1.trans k2).wid.trans k3) ((t1.kp k2).kp k3) upd_same⟩
theorem sf_v (hv : EvV tv σ H v) (ho : EvV to σ H (.ref p)) (hp : H p = some (.ins C dx fs)) (cl : Cls K C) (na : NoAttr K C f) (n : ∀ H1, Kp [p] H H1 → H1 p = some (.ins C dx (putF f v fs)) → D.nx σ H1) (hl0 : Nat.ble fs.length 999 = true := by rfl) : sFld K to tv f D σ H :=
  hv H (Kp.refl _ _) _ fun H1 k1 => ho H1 k1 _ fun H2 k2 => by
    have e := (k1.trans k2).get hp
    have k3 : Kp [p] H2 (upd H2 p (.ins C dx (putF f v fs))) := Kp.put (List.mem_singleton.mpr rfl) e notup
    exact ⟨p, C, dx, fs, rfl, e, cl, na, Nat.lt_succ_of_le (Nat.le_of_ble_eq_true hl0), n _ ((k1.trans k2).wid.trans k3) upd_same⟩
theorem sf_l (hv : EvL tv σ H ds) (ho : EvV to σ H (.ref p)) (hp : H p = some (.ins C dx fs)) (cl : Cls K C) (na : NoAttr K C f)
    (n : ∀ l us H1, H l = none → l ≠ p → Kp [p] H H1 → H1 l = some (.lst us) → TDs H1 us ds → H1 p = some (.ins C dx (putF f (.ref l) fs)) → D.nx σ H1) (hl0 : Nat.ble fs.length 999 = true := by rfl) : sFld K to tv f D σ H :=
  hv H (Kp.refl _ _) _ fun l us H1 hl1 k1 e1 t1 => ho H1 k1 _ fun H2 k2 => by
    have e := (k1.trans k2).get hp
    have k3 : Kp [p] H2 (upd H2 p (.ins C dx (putF f (.ref l) fs))) := Kp.put (List.mem_singleton.mpr rfl) e notup
    have ne : l ≠ p := fun z => by rw [z, hp] at hl1; cases hl1
    exact ⟨p, C, dx, fs, rfl, e, cl, na, Nat.lt_succ_of_le (Nat.le_of_ble_eq_true hl0), n l us _ hl1 ne ((k1.trans k2).wid.trans k3) (by rw [upd_ne ne]; exact k2.get e1) ((t1.kp k2).kp k3) upd_same⟩
/-- o.f += a number -/
theorem sf_add (hv : EvD tv σ H (.int y)) (ho : EvV to σ H (.ref p)) (hp : H p = some (.ins C dx fs)) (cl : Cls K C) (na : NoAttr K C f) (hf : fs.lookup f = some (.int x)) {rd : V → V → Hp → VK → Prop} (hr : ∀ H (Q : VK), Q (.int (x + y)) H → rd (.int x) (.int y) H Q)
    (n : ∀ H1, Kp [p] H H1 → H1 p = some (.ins C dx (putF f (.int (x + y)) fs)) → D.nx σ H1) (hl0 : Nat.ble fs.length 999 = true := by rfl) : sFldAug K to tv rd f D σ H :=
  ho H (Kp.refl _ _) _ fun H1 k1 => ⟨p, C, dx, fs, .int x, rfl, k1.get hp, cl, na, hf, ev_i hv H1 k1 _ fun H2 k2 => hr H2 _ (by
    have e := (k1.trans k2).get hp
    have k3 : Kp [p] H2 (upd H2 p (.ins C dx (putF f (.int (x + y)) fs))) := Kp.put (List.mem_singleton.mpr rfl) e notup
    exact ⟨dx, fs, e, Nat.lt_succ_of_le (Nat.le_of_ble_eq_true hl0), n _ ((k1.trans k2).wid.trans k3) upd_same⟩)⟩
theorem et_isN {ta : TE} {r : R2} (hr : r = fun x y H Q => y = .non ∧ Q (.bl (decide (x = .non))) H) (ha : EvV ta σ H v) : EvT (tTest (tOp r ta (tC .non))) σ H (decide (v = .non)) := fun H1 k Q q => by
  subst hr
  exact ha H1 k _ fun H2 k2 => ⟨rfl, _, rfl, q H2 k2⟩
theorem et_notN {ta : TE} {r : R2} (hr : r = fun x y H Q => y = .non ∧ Q (.bl (!decide (x = .non))) H) (ha : EvV ta σ H v) : EvT (tTest (tOp r ta (tC .non))) σ H (!decide (v = .non)) := fun H1 k Q q => by
  subst hr
  exact ha H1 k _ fun H2 k2 => ⟨rfl, _, rfl, q H2 k2⟩
theorem ev_ifT {tt : TT} {ta tb : TE} (h : EvT tt σ H true) (h1 : EvV ta σ H v) : EvV (tIf tt ta tb) σ H v := fun H1 k Q q => h H1 k _ fun H2 k2 => iteT (h1 H2 (k.trans k2) _ fun H3 k3 => q H3 (k2.trans k3))
theorem ev_ifF {tt : TT} {ta tb : TE} (h : EvT tt σ H false) (h1 : EvV tb σ H v) : EvV (tIf tt ta tb) σ H v := fun H1 k Q q => h H1 k _ fun H2 k2 => iteF (h1 H2 (k.trans k2) _ fun H3 k3 => q H3 (k2.trans k3))
theorem st_asg {i : Nat} (h : te σ H fun v H1 => D.nx (σ.set i (some v)) H1) : tAsg te (gName i) D σ H := h
end
end Sr
/-! Rules: len by an own def, a class called by a local name, a classmethod with keywords. -/
namespace Sr
open PySem PySem.Spec PyProof.Rows L2
/-- len(o), o of a class with its own def -/
def rLenO (C : Addr) (sp : Sp) : List V → Hp → VK → Prop := fun xs H Q => ∃ (a dx : Addr) (fs : List (Str × V)), xs = [.ref a] ∧ H a = some (.ins C dx fs) ∧ sp [.ref a] H (fun v H' => ∃ n : Int, v = .int n ∧ (0 ≤ n ∧ n < 2 ^ 63) ∧ Q (.int n) H') E0
theorem call_lenO {X : Cx} {k : Nat} {C : Addr} {sp : Sp} (G : GM X.prog X.w X.K X.mg X.base k C "__len__" ["self"] sp) (hr : Room (k + 1) X.A) : CallR X (.builtin "len") (rLenO C sp) := by
  intro pins s σ H xs us Q I r h
  obtain ⟨a, dx, fs, rfl, ha, q⟩ := h
  obtain ⟨u, rfl, rx⟩ := vals1 r
  cases rx
  obtain ⟨g, fd, hm, hb, F⟩ := G.ex
  obtain ⟨m, fr⟩ := I.fr
  obtain ⟨mA, O, _⟩ := ins_get I.hok ha
  obtain ⟨od, J, _⟩ := O.look
  refine PySem.W.len_K fr I.ok.mod.kin J hm.at_ hm.fn (wpAny_call (codeAny_mono (F.run X.A.in1 X.stack s H ⟨[.ref a], []⟩ [.ref a] [.ref a] _ E0 hr.in1 I.env0.in1 (hb s [.ref a] I.kIn (by rw [← F.len _ _ _ _ q]; rfl)) (.cons rfl .nil) q) fun res s' ends => ?_))
  match res, ends with
  | .ok (.ret u), e =>
    obtain ⟨v, H', I', rv, n, rfl, hn, q'⟩ := I.after e
    obtain ⟨t, rfl⟩ := rv
    exact ⟨hn, .int n, H', I'.tok _, ⟨_, rfl⟩, q'⟩
  | .ok .next, e => exact e.elim
  | .ok .brk, e => exact e.elim
  | .ok .cont, e => exact e.elim
  | .error _, e => exact e.elim
section
variable {X : Cx} {CX : CXT} {k n : Nat} {f C : Addr} {fd : FuncData} {ps ks : List Str} {sp : Sp} {E : XK} {x m : Str} {p pos apos : Pos} {e o : Expr} {es : List Expr} {kws : List Keyword} {t tk : TA} {te : TE} {g : List Value → List Value → List Value} {gV : List V → List V → List V}
/-- c(e, .., k = v, ..), c the class at C -/
def tMakeV (C : Addr) (n m : Nat) (sp : Sp) (gV : List V → List V → List V) (E : XK) (te : TE) (t tk : TA) : TE := fun σ H Q => te σ H fun v H1 => v = .ref C ∧ tMakeK C n m sp gV E t tk σ H1 Q
theorem pe_makeV (he0 : PE X (.Name x p) te) (M : Mk X.K C f) (F : FnOk X.prog X.w X.K X.mg X.base CX k f fd ps sp) (hr : Room (k + 1) X.A) (hb : KBn X.K fd ps (n + 1) ks g gV) (hx : Passes CX X E) (ha : PA X (e :: es) t) (hkw : PK X kws tk)
    (hall : (backToKw pos (keywordEach kws X.env)).all (·.1.isSome) = true := by rfl) (hks : (backToKw pos (keywordEach kws X.env)).filterMap (·.1) = ks := by rfl)
    (he : starEach (e :: es) X.env = (false, eval e X.env) :: starEach es X.env := by rfl) (hpl : ((backTo pos (starEach (e :: es) X.env)).any (·.1) || (backToKw pos (keywordEach kws X.env)).any (·.1.isNone)) = false := by rfl) :
    PE X (.Call (.Name x p) (e :: es) kws pos) (tMakeV C n ks.length sp gV E te t tk) := ⟨fun pins s σ H Q I h => by
  refine wpAny_Call_Name_kw (thn (he0.run pins s σ H _ I h) fun c s0 ⟨v, H0, I0, rv, ev, q0⟩ => ?_)
  cases ev
  cases rv
  refine PySem.W.callWith_KW (h₀ := X.base) I0.ok.mod.kin M.kp hall (thn (ha.run pos pins s0 σ H0 _ I0 q0) fun us s1 ⟨vs, H1, I1, r, q⟩ => thn (hkw.run pos pins s1 σ H1 _ I1 q) fun ws s2 ⟨zs, H2, I2, rz, l1, l2, q2⟩ => ⟨I2.kIn, ?_⟩) hpl he
  rw [hks]
  exact run_makeK M F hr hb hx I2 r rz l1 l2 q2⟩
/-- C.m(e, .., k = v, ..), m a classmethod -/
def tCMethK (C : Addr) (n m : Nat) (sp : Sp) (E : XK) (ta : TE) (t tk : TA) : TE := fun σ H Q => ta σ H fun x H1 => x = .ref C ∧ t σ H1 fun vs H2 => tk σ H2 fun zs H3 => vs.length = n ∧ zs.length = m ∧ sp (.ref C :: (vs ++ zs)) H3 Q E
theorem pe_cmethKG {mc : Value} {pl : Sem Bool} {pp : Addr} {ta : TE} (hgu : X.A.guards = some []) (he0 : PE X o ta) (r : ClX.CRead X.K C mc) (c : ClX.CMet X.K C mc m pp f) (F : FnG X.prog X.w X.K X.mg X.base k f fd ps sp) (hr : Room k X.A)
    (hb : KBn X.K fd ps (n + 1) ks (fun us ws => us ++ ws) (fun vs zs => vs ++ zs)) (ha : PA X (e :: es) t) (hkw : PK X kws tk)
    (hall : (backToKw pos (keywordEach kws X.env)).all (·.1.isSome) = true := by rfl) (hks : (backToKw pos (keywordEach kws X.env)).filterMap (·.1) = ks := by rfl)
    (he : starEach (e :: es) X.env = (false, eval e X.env) :: starEach es X.env := by rfl) (hpl : ((backTo pos (starEach (e :: es) X.env)).any (·.1) || (backToKw pos (keywordEach kws X.env)).any (·.1.isNone)) = false := by rfl)
    (ht : eval (.Call (.Attribute o m apos) (e :: es) kws pos) X.env = (do
      let ov ← eval o X.env
      standAt apos.atName
      let (g, first) ← holding [ov] (getMethod ov m pl)
      callWith pos g first (backTo pos (starEach (e :: es) X.env)) (backToKw pos (keywordEach kws X.env))) := by rfl) :
    PE X (.Call (.Attribute o m apos) (e :: es) kws pos) (tCMethK C n ks.length sp E0 ta t tk) := ⟨fun pins s σ H Q I h => by
  refine PySem.W.methodCall_KW (pl := pl) (thn (he0.run pins s σ H _ I h) fun u s1 ⟨x, H1, I1, rx, ex, q⟩ => ?_) ht
  cases ex
  cases rx
  refine ClX.getmethcm_ok I1 r c fun s2 I2 => ?_
  refine PySem.W.callWith_of hpl (PySem.W.keeps_M (q := s1.heap.objs.size) (self := .ref C) c.fi) (evalArgs_kw2 hall (thn (ha.run pos _ s2 σ H1 _ I2 q) fun us s3 ⟨vs, H2, I3, rv, q2⟩ => thn (hkw.run pos _ s3 σ H2 _ I3 q2) fun ws s4 ⟨zs, H3, I4, rz, l1, l2, q3⟩ => ⟨⟨ClX.pin_at I4, I4.kIn⟩, ?_⟩) he)
  rw [hks]
  have r2 : Vals (V.ref C :: (vs ++ zs)) (Value.ref C :: (us ++ ws)) := .cons rfl (rv.append rz)
  have n1 : (Value.ref C :: us).length = n + 1 := by rw [List.length_cons, ← rv.length, l1]
  have z : wpAny (model X.prog X.w) X.A (call (.ref s1.heap.objs.size) us (ks.zip ws)) (EP X ((s1.heap.objs.size, PySem.W.methodObj (.ref f) (.ref C)) :: pins) σ Q) X.xe s4 := by
    refine wpAny_call (PySem.W.method_call (ClX.pin_at I4) (codeAny_mono (F.run X.A X.stack s4 H3 ⟨.ref C :: us, ks.zip ws⟩ (.ref C :: (us ++ ws)) _ Q E0 hgu hr I4.env0 (hb.to s4 (.ref C :: us) ws I4.kIn n1 (rz.length.symm.trans l2)) r2 q3) fun res s' ends => ?_))
    match res, ends with
    | .ok (.ret u), e => exact I4.after e
    | .ok .next, e => exact e.elim
    | .ok .brk, e => exact e.elim
    | .ok .cont, e => exact e.elim
    | .error _, e => exact e.elim
  exact thn z fun _ _ y => ClX.unpinE y⟩
end
end Sr
/-! The ring. -/
namespace Sr
open PySem PySem.Spec PyProof.Rows L2
/-- what the text has of the class -/
structure RingT (K : PySem.W.Frag) : Prop where
  cl : Cls K (cR K)
  na_recipes_given : NoAttr K (cR K) "recipes_given"
  na_faults_withstood : NoAttr K (cR K) "faults_withstood"
  na_copy_count : NoAttr K (cR K) "copy_count"
  na_piece_lengths : NoAttr K (cR K) "piece_lengths"
  na_row_list : NoAttr K (cR K) "row_list"
  reg : ∃ u, Con K (cR K) "REGISTERS" (.int 32) u
/-- the sizes of the pieces -/
def lenP (rs : List Rec) : Int := ((pieceP rs 0).length : Int)
def lenQ (rs : List Rec) (e : Int) (k : Nat) : Int := ((pieceQ rs.length e k 0).length : Int)
/-- a ring at p -/
structure RingO (H : Hp) (C p : Addr) (rs : List Rec) (e : Int) (k : Nat) : Prop where
  ex : ∃ dx v u w, H p = some (.ins C dx ([("recipes_given", v), ("faults_withstood", .int e), ("copy_count", .int k), ("piece_lengths", u), ("row_list", w)] : Fs)) ∧ TD H v (recsD rs) ∧ TD H u (.tuple [.int (lenP rs), .int (lenQ rs e k)]) ∧ TD H w (.tuple ((ringR rs e k).map rowD))
structure RingG (rs : List Rec) (e : Int) (k : Nat) : Prop where
  rs : GoodRecs rs
  e : 0 ≤ e ∧ e ≤ 2
  k : 1 ≤ k ∧ k ≤ 5
theorem RingO.kp {H H' : Hp} {C p : Addr} {rs : List Rec} {e : Int} {k : Nat} {S : List Addr} (r : RingO H C p rs e k) (kp : Kp S H H') (h : p ∉ S) : RingO H' C p rs e k := by
  obtain ⟨dx, v, u, w, e, t1, t2, t3⟩ := r.ex
  exact ⟨dx, v, u, w, kp.oth p _ h e, t1.kp kp, t2.kp kp, t3.kp kp⟩
theorem ringR_len {rs : List Rec} {e : Int} {k : Nat} (g : RingG rs e k) : (ringR rs e k).length ≤ 775 := by
  have h1 := range_len (g := fun (c : Nat) => pieceP rs c) (n := 42) (fun i => pieceP_len g.rs i) k
  have h2 := range_len (g := fun (c : Nat) => pieceQ rs.length e k c) (n := 113) (fun i => by
    have h2 : (12 + 2 * k) * k ≤ 22 * 5 := Nat.mul_le_mul (by have := g.k; omega) g.k.2
    show (pieceQ rs.length e k i).length ≤ 113
    rw [pieceQ_len]
    omega) k
  have hk := g.k
  have h3 : 42 * k ≤ 42 * 5 := Nat.mul_le_mul (Nat.le_refl _) hk.2
  have h4 : 113 * k ≤ 113 * 5 := Nat.mul_le_mul (Nat.le_refl _) hk.2
  unfold ringR
  rw [List.length_append]
  omega
theorem pieceP_sz (rs : List Rec) (c c' : Int) : (pieceP rs c).length = (pieceP rs c').length := by
  have h : ∀ (rs : List Rec) (o n o' n' ix : Int), (recsR o n ix rs).length = (recsR o' n' ix rs).length := by
    intro rs
    induction rs with
    | nil => intro _ _ _ _ _; rfl
    | cons r rs ih =>
      intro o n o' n' ix
      simp only [recsR, List.length_append, recR, List.length_map, chooseR, List.length_cons, List.length_nil, ih o n o' n' (ix + 1)]
  simp only [pieceP, List.length_append, countR, List.length_cons, List.length_nil, h rs (oldA rs.length c) (newA rs.length c) (oldA rs.length c') (newA rs.length c') 0]
theorem range_map_at {α : Type} {g : Nat → α} {i k : Nat} (h : i < k) : ((List.range k).map g)[i]? = some (g i) := by simp [h]
theorem ed_is_recipes {σ : L2.St} {H : Hp} {ta : TE} {E : XK} {rs : List Rec} (ha : EvD ta σ H (recsD rs)) (hg : GoodRecs rs) : EvD (tCall sp_is_recipes [] E (tCons ta tNil)) σ H (.bool true) := fun H1 k Q q =>
  ha H1 k _ fun v H2 k2 t2 => ⟨v, rs, rfl, t2, hg, fun H3 k3 => q _ H3 (k2.trans k3) (.bl true)⟩
section
variable {P : Program} {w : World} {K : PySem.W.Frag} {mg : Str → Option Value} {base : Heap} {f : Addr} {fd : FuncData}
abbrev s_Ring_init : Stmt := inClass (top 51) 1
theorem sc_Ring_init : FnScope ["self", "recipes", "faults", "copies", "pieces", "votes", "copy", "piece", "row"] ["self", "recipes", "faults", "copies"] (defScope s_Ring_init) := ⟨rfl, rfl, rfl, by decide +kernel, rfl, by decide +kernel, by decide +kernel⟩
def sp_Ring_init (C : Addr) : Sp := fun vs H Q _ => ∃ (p dx : Addr) (v : V) (e : Int) (k : Nat) (rs : List Rec), vs = [.ref p, v, .int e, .int k] ∧ H p = some (.ins C dx []) ∧ TD H v (recsD rs) ∧ RingG rs e k ∧ ∀ H', Kp [p] H H' → RingO H' C p rs e k → Q .non H'
theorem ok_Ring_init (F : Fun K "__init__" "Ring.__init__" s_Ring_init f fd) (T : Txt K mg) (R : RingT K) (g_is_recipes : GF P w K mg base 6 "is_recipes" ["thing"] sp_is_recipes) (g_is_number : GF P w K mg base 1 "is_number" ["value", "least", "most"] sp_is_number)
    (g_piece_p : GF P w K mg base 2 "piece_p" ["recipes", "copy"] sp_piece_p) (g_piece_q : GF P w K mg base 2 "piece_q" ["size", "faults", "copies", "copy"] sp_piece_q) :
    FnOk P w K mg base CX0 7 f fd ["self", "recipes", "faults", "copies"] (sp_Ring_init (cR K)) := by
  refine F.ok sc_Ring_init (fun vs H Q E h => ?_) (fun cdv A outer s H vs Q E hr h => ?_)
  · obtain ⟨p, dx, v, e, k, rs, rfl, _⟩ := h
    rfl
  · obtain ⟨p, dx, v, e, k, rs, rfl, hp, hv, hg, q⟩ := h
    refine ⟨_, (pss_cons (ps_if (pt_not (pt_val (pe_gf g_is_recipes (hr.mono (by decide)) rfl (pa_cons (pv 1) pa_nil)))) (pss_one ps_never) pss_nil)
      (pss_cons (ps_if (pt_not (pt_val (pe_gf g_is_number (hr.mono (by decide)) rfl (pa_cons (pv 2) (pa_cons pe_int (pa_cons (pe_gi T.c_MOST_FAULTS rfl) pa_nil)))))) (pss_one ps_never) pss_nil)
      (pss_cons (ps_if (PW.pt (pw_and (pt_cmpR op_notN (pv 3) pe_non (nomark _)) (pw_and1 (pt_not (pt_val (pe_gf g_is_number (hr.mono (by decide)) rfl (pa_cons (pv 3) (pa_cons pe_int (pa_cons (pe_gi T.c_MOST_COPIES rfl) pa_nil))))))))) (pss_one ps_never) pss_nil)
      (pss_cons (ps_fld (pv 0) (pv 1) rfl)
      (pss_cons (ps_fld (pv 0) (pv 2) rfl)
      (pss_cons (ps_fld (pv 0) (pe_ifExp (pt_cmpR op_isN (pv 3) pe_non (nomark _)) pe_never (pv 3)) rfl)
      (pss_cons (ps_setLc (i := 4) (own := [("copy", 6)]) rfl sc_Ring_init.nd rfl rfl (sw_true rfl rfl rfl (by decide +kernel)) (pi_range1 rfl T.f_range (pa_cons (pe_fldK (K := K) (pv 0) rfl) pa_nil)) (blkOk_by (own := [("copy", 6)]) (N := ["self", "recipes", "faults", "copies", "pieces", "votes", "copy", "piece", "row"]) (sc := defScope (inClass (top 51) 1)) (by decide +kernel)) (fun _ _ _ _ _ => (pg_name (i := 6) sc_Ring_init.nd rfl (Or.inl rfl))) (fun _ _ _ _ _ => pts_nil) (fun _ _ _ _ _ => (pe_gf g_piece_p (hr.mono (by decide)) rfl (pa_cons (pv 1) (pa_cons (pv 6) pa_nil)))))
      (pss_cons (ps_setLc (i := 5) (own := [("copy", 6)]) rfl sc_Ring_init.nd rfl rfl (sw_true rfl rfl rfl (by decide +kernel)) (pi_range1 rfl T.f_range (pa_cons (pe_fldK (K := K) (pv 0) rfl) pa_nil)) (blkOk_by (own := [("copy", 6)]) (N := ["self", "recipes", "faults", "copies", "pieces", "votes", "copy", "piece", "row"]) (sc := defScope (inClass (top 51) 1)) (by decide +kernel)) (fun _ _ _ _ _ => (pg_name (i := 6) sc_Ring_init.nd rfl (Or.inl rfl))) (fun _ _ _ _ _ => pts_nil) (fun _ _ _ _ _ => (pe_gf g_piece_q (hr.mono (by decide)) rfl (pa_cons (pe_callB (r := rLen K) call_len_seq rfl T.f_len PySem.boot_len (pa_cons (pv 1) pa_nil)) (pa_cons (pv 2) (pa_cons (pe_fldK (K := K) (pv 0) rfl) (pa_cons (pv 6) pa_nil)))))))
      (pss_cons (ps_fld (pv 0) (pe_tup (pa_cons (pe_callB (r := rLen K) call_len_seq rfl T.f_len PySem.boot_len (pa_cons (pe_ix (r := rIxL K) ix_list (pv 4) pe_int (fun _ _ => rfl)) pa_nil)) (pa_cons (pe_callB (r := rLen K) call_len_seq rfl T.f_len PySem.boot_len (pa_cons (pe_ix (r := rIxL K) ix_list (pv 5) pe_int (fun _ _ => rfl)) pa_nil)) pa_nil))) rfl)
      (pss_one (ps_fld (pv 0) (pe_callTy call_tuple_of rfl T.f_tuple (by decide +kernel) (pa_cons (pe_lc2 (own := [("piece", 7), ("row", 8)]) (vs1 := [8]) (wi1 := iList K (tVar 7)) rfl sc_Ring_init.nd (pi_list (pe_op op_cat (pv 4) (pv 5))) (blkOk_by (own := [("piece", 7), ("row", 8)]) (N := ["self", "recipes", "faults", "copies", "pieces", "votes", "copy", "piece", "row"]) (sc := defScope (inClass (top 51) 1)) (by decide +kernel)) (by decide) (fun _ _ _ _ _ => (pg_name (i := 7) sc_Ring_init.nd rfl (Or.inl rfl))) (fun _ _ _ _ _ => pts_nil) (fun _ _ _ _ _ => (pi_list (pv 7))) (fun _ _ _ _ _ => (pg_name (i := 8) sc_Ring_init.nd rfl (Or.inl rfl))) (fun _ _ _ _ _ => pts_nil) (fun _ _ _ _ _ => (pv 8))) pa_nil)) rfl))))))))))), ?_⟩
    have hgk := hg.k
    have hge := hg.e
    have hgn := hg.rs.1
    have hpl : ∀ i : Nat, (pieceP rs (i : Nat)).length ≤ 42 := fun i => pieceP_len hg.rs i
    have hql : ∀ i : Nat, (pieceQ rs.length e k (i : Nat)).length ≤ 113 := fun i => by
      have h2 : (12 + 2 * k) * k ≤ 22 * 5 := Nat.mul_le_mul (by omega) hgk.2
      rw [pieceQ_len]
      omega
    refine st_ifF (et_not (b := true) (et_val (ed_is_recipes (ed_var rfl hv) hg.rs))) fun H1 k1 => ?_
    dsimp only
    refine st_ifF (et_not (b := true) (et_val (ed_bT (ed_is_number (ed_var rfl (.int e)) ed_i ed_i) (by unfold inC; simp; omega)))) fun H2 k2 => ?_
    dsimp only
    refine st_ifF (et_F (et_and (et_notN rfl (ev_var rfl)) fun _ => et_not (b := true) (et_val (ed_bT (ed_is_number (ed_var rfl (.int k)) ed_i ed_i) (by unfold inC; simp; omega)))) rfl) fun H3 k3 => ?_
    dsimp only
    have k03 := (k1.trans k2).trans k3
    have hp3 := k03.get hp
    refine sf_d (ed_var rfl (hv.kp k03)) (ev_var rfl) hp3 R.cl R.na_recipes_given fun v1 H4 k4 t4 e4 => ?_
    dsimp only
    refine sf_v (v := .int e) (ev_var rfl) (ev_var rfl) e4 R.cl R.na_faults_withstood fun H5 k5 e5 => ?_
    dsimp only
    refine sf_v (v := .int k) (ev_ifF (et_F (et_isN rfl (ev_var rfl)) rfl) (ev_var rfl)) (ev_var rfl) e5 R.cl R.na_copy_count fun H6 k6 e6 => ?_
    have k36 := (k4.trans k5).trans k6
    have hv6 : TD H6 v (recsD rs) := (hv.kp k03).kp k36
    have t6 := (t4.kp k5).kp k6
    have hr6 : EvD (tFld K (tVar 0) "copy_count") (L2.start ["self", "recipes", "faults", "copies", "pieces", "votes", "copy", "piece", "row"] [.ref p, v, .int e, .int k]) H6 (.int k) := ed_v (ev_fld (ev_var rfl) e6 R.cl R.na_copy_count rfl) (.int k)
    -- the pieces
    dsimp only
    refine st_asg ?_
    refine el_lcG (R := fun D i v H => ∃ l us, v = .ref l ∧ l ≠ D ∧ l ≠ p ∧ H l = some (.lst us) ∧ TDs H us ((pieceP rs (i : Nat)).map rowD)) (ei_range (n := k) hr6 rfl (by omega)) yfn (by omega) (fun _ => rfl)
      (fun D i v H1 H2 ⟨l, us, e1, e2, e3, e4, e5⟩ kD => ⟨l, us, e1, e2, e3, kD.oth l _ (fun m => e2 (List.mem_singleton.mp m)) e4, e5.kp kD⟩)
      (fun D H7 k7 hD oD i hi Q q => ?_) (Kp.refl _ _) fun P1 up H7 hP1 k7 eP lP rP => ?_
    · refine el_piece_p (ed_var rfl hv6) (c := i) (ed_var rfl (by rw [Int.zero_add]; exact .int _)) hg.rs (by omega) H7 k7 Q fun l us H8 hl8 k8 e8 t8 => q _ H8 k8 ⟨l, us, rfl, ?_, ?_, e8, t8⟩
      · rintro rfl
        obtain ⟨o, ho⟩ := oD
        rw [ho] at hl8
        cases hl8
      · rintro rfl
        rw [k7.get e6] at hl8
        cases hl8
    have hr7 : ∀ o4 : Option V, EvD (tFld K (tVar 0) "copy_count") [some (.ref p), some v, some (.int e), some (.int k), o4, none, none, none, none] H7 (.int k) := fun _ => ed_v (ev_fld (ev_var rfl) (k7.get e6) R.cl R.na_copy_count rfl) (.int k)
    have hv7 := hv6.kp k7
    dsimp only
    refine st_asg ?_
    refine el_lcG (R := fun D i v H => ∃ l us, v = .ref l ∧ l ≠ D ∧ l ≠ p ∧ H l = some (.lst us) ∧ TDs H us ((pieceQ rs.length e k (i : Nat)).map rowD)) (ei_range (n := k) (hr7 _) rfl (by omega)) yfn (by omega) (fun _ => rfl)
      (fun D i v H1 H2 ⟨l, us, e1, e2, e3, e4, e5⟩ kD => ⟨l, us, e1, e2, e3, kD.oth l _ (fun m => e2 (List.mem_singleton.mp m)) e4, e5.kp kD⟩)
      (fun D H8 k8 hD oD i hi Q q => ?_) (Kp.refl _ _) fun Q1 uq H8 hQ1 k8 eQ lQ rQ => ?_
    · have hlen : EvD (tCB (rLen K) (tCons (tVar 1) tNil)) ((wipe [some (.ref p), some v, some (.int e), some (.int k), some (.ref P1), none, none, none, none] [6]).set 6 (some (.int ((0 : Int) + (i : Nat))))) H7 (.int (rs.map recD).length) := ed_lenT (ed_var rfl hv7)
      rw [List.length_map] at hlen
      refine el_piece_q (c := i) hlen (ed_var rfl (.int e)) (ed_v (ev_fld (ev_var rfl) (k7.get e6) R.cl R.na_copy_count rfl) (.int k)) (ed_var rfl (by rw [Int.zero_add]; exact .int _)) (by omega) (by omega) (by omega) H8 k8 Q fun l us H9 hl9 k9 e9 t9 => q _ H9 k9 ⟨l, us, rfl, ?_, ?_, e9, t9⟩
      · rintro rfl
        obtain ⟨o, ho⟩ := oD
        rw [ho] at hl9
        cases hl9
      · rintro rfl
        rw [(k7.trans k8).get e6] at hl9
        cases hl9
    dsimp only
    have eP8 := k8.get eP
    have e8 := (k7.trans k8).get e6
    have rP8 : ∀ (i : Nat) (v : V), up[i]? = some v → ∃ l us, v = .ref l ∧ l ≠ p ∧ H8 l = some (.lst us) ∧ TDs H8 us ((pieceP rs (i : Nat)).map rowD) := fun i v h => by
      obtain ⟨l, us, e1, _, e3, e4, e5⟩ := rP i v h
      exact ⟨l, us, e1, e3, k8.get e4, e5.kp k8⟩
    have rQ8 : ∀ (i : Nat) (v : V), uq[i]? = some v → ∃ l us, v = .ref l ∧ l ≠ p ∧ H8 l = some (.lst us) ∧ TDs H8 us ((pieceQ rs.length e k (i : Nat)).map rowD) := fun i v h => by
      obtain ⟨l, us, e1, _, e3, e4, e5⟩ := rQ i v h
      exact ⟨l, us, e1, e3, e4, e5⟩
    have hP1p : P1 ≠ p := fun z => by rw [z, e6] at hP1; cases hP1
    have hQ1p : Q1 ≠ p := fun z => by rw [z, k7.get e6] at hQ1; cases hQ1
    obtain ⟨vp, hvp⟩ : ∃ v, up[0]? = some v := ⟨_, List.getElem?_eq_getElem (by omega)⟩
    obtain ⟨vq, hvq⟩ : ∃ v, uq[0]? = some v := ⟨_, List.getElem?_eq_getElem (by omega)⟩
    obtain ⟨l0, us0, rfl, _, el0, tl0⟩ := rP8 0 vp hvp
    obtain ⟨l1, us1, rfl, _, el1, tl1⟩ := rQ8 0 vq hvq
    have z0 : us0.length = (pieceP rs 0).length := by simpa using tl0.len
    have z1 : us1.length = (pieceQ rs.length e k 0).length := by simpa using tl1.len
    refine sf_d (d := .tuple [.int us0.length, .int us1.length]) (ed_tup (eds_cons (ed_lenL (ev_ixL (ev_var rfl) eP8 ed_i (L2.atI_nat (j := 0) hvp)) el0) (eds_cons (ed_lenL (ev_ixL (ev_var rfl) eQ ed_i (L2.atI_nat (j := 0) hvq)) el1) eds_nil))) (ev_var rfl) e8 R.cl R.na_piece_lengths fun v9 H9 k9 t9 e9 => ?_
    dsimp only
    have np : ∀ {l : Addr} {o : HO}, l ≠ p → H8 l = some o → H9 l = some o := fun h e => k9.oth _ _ (fun m => h (List.mem_singleton.mp m)) e
    refine sf_d (d := .tuple ((ringR rs e k).map rowD)) (ed_tupleL (EvL.l0 ?_)) (ev_var rfl) e9 R.cl R.na_row_list fun v10 H10 k10 t10 e10 => ?_
    · have hfl : (ringR rs e k).map rowD = ((List.range k).map (fun (c : Nat) => (pieceP rs c).map rowD) ++ (List.range k).map (fun (c : Nat) => (pieceQ rs.length e k c).map rowD)).flatten := by
        unfold ringR
        rw [List.map_append, List.flatten_append, List.map_flatMap, List.map_flatMap, List.flatMap_def, List.flatMap_def]
      have hsz := ringR_len hg
      rw [hfl]
      refine el_lc2 (n := (up ++ uq).length) (xs := up ++ uq) (ei_cat (ev_var rfl) (ev_var rfl) (np hP1p eP8) (np hQ1p eQ) (by omega)) rfl (by simp [lP, lQ]) (fun i v hv => ?_) (by rw [← hfl, List.length_map]; omega) (fun _ => rfl) (fun _ => rfl) (fun _ _ => rfl) (fun _ _ => rfl)
      rcases Nat.lt_or_ge i up.length with h | h
      · rw [List.getElem?_append_left h] at hv
        obtain ⟨l, us, rfl, n1, e1, t1⟩ := rP8 i v hv
        exact ⟨l, us, _, rfl, np n1 e1, t1.kp k9, (List.getElem?_append_left (by simp; omega)).trans (range_map_at (by omega))⟩
      · rw [List.getElem?_append_right h] at hv
        obtain ⟨l, us, rfl, n1, e1, t1⟩ := rQ8 (i - up.length) v hv
        have hi : i - up.length < uq.length := (List.getElem?_eq_some_iff.mp hv).1
        exact ⟨l, us, _, rfl, np n1 e1, t1.kp k9, by rw [List.getElem?_append_right (by simp; omega), List.length_map, List.length_range, ← lP]; exact range_map_at (by omega)⟩
    · have kall : Kp [p] H H10 := ((((k03.wid.trans k36).trans (k7.trans k8).wid).trans k9).trans k10)
      refine q H10 kall ⟨dx, v1, v9, v10, e10, ?_, ?_, t10⟩
      · exact (((t6.kp k7).kp k8).kp k9).kp k10
      · rw [z0, z1] at t9
        exact t9.kp k10
end
end Sr
/-! The ring's attributes, its length, its pieces, its first memory. -/
namespace Sr
open PySem PySem.Spec PyProof.Rows L2
section
variable {P : Program} {w : World} {K : PySem.W.Frag} {mg : Str → Option Value} {base : Heap} {f : Addr} {fd : FuncData}
/-- of a ring, a number -/
def sp_Rn (C : Addr) (g : List Rec → Int → Nat → Int) : Sp := fun vs H Q _ => ∃ (p : Addr) (rs : List Rec) (e : Int) (k : Nat), vs = [.ref p] ∧ RingO H C p rs e k ∧ RingG rs e k ∧ ∀ H', Kp [] H H' → Q (.int (g rs e k)) H'
theorem ed_Rn {C : Addr} {g : List Rec → Int → Nat → Int} {σ : L2.St} {H : Hp} {to : TE} {E : XK} {p : Addr} {rs : List Rec} {e : Int} {k : Nat} (ho : EvV to σ H (.ref p)) (r : RingO H C p rs e k) (hg : RingG rs e k) : EvD (tProp C (sp_Rn C g) [] E to) σ H (.int (g rs e k)) := fun H1 k1 Q q =>
  ho H1 k1 _ fun H2 k2 => by
    have r2 := r.kp (k1.trans k2) (fun m => nomatch m)
    obtain ⟨dx, v, u, w, ep, _⟩ := r2.ex
    exact ⟨p, dx, _, rfl, ep, p, rs, e, k, rfl, r2, hg, fun H3 k3 => q _ H3 (k2.trans k3) (.int _)⟩
abbrev s_Ring_faults : Stmt := inClass (top 51) 3
theorem sc_Ring_faults : FnScope ["self"] ["self"] (defScope s_Ring_faults) := ⟨rfl, rfl, rfl, by decide +kernel, rfl, by decide +kernel, by decide +kernel⟩
theorem ok_Ring_faults (F : Fun K "faults" "Ring.faults" s_Ring_faults f fd) (R : RingT K) : FnOk P w K mg base CX0 1 f fd ["self"] (sp_Rn (cR K) fun _ e _ => e) := by
  refine F.ok sc_Ring_faults (fun vs H Q E h => ?_) (fun cdv A outer s H vs Q E hr h => ?_)
  · obtain ⟨p, rs, e, k, rfl, _⟩ := h
    rfl
  · obtain ⟨p, rs, e, k, rfl, r, hg, q⟩ := h
    refine ⟨_, (pss_one (ps_ret (pe_fldK (K := K) (pv 0) rfl))), ?_⟩
    obtain ⟨dx, v, u, w, ep, _⟩ := r.ex
    exact ⟨_, rfl, p, _, dx, _, _, rfl, ep, R.cl, R.na_faults_withstood, rfl, q H (Kp.refl _ _)⟩
abbrev s_Ring_copies : Stmt := inClass (top 51) 4
theorem sc_Ring_copies : FnScope ["self"] ["self"] (defScope s_Ring_copies) := ⟨rfl, rfl, rfl, by decide +kernel, rfl, by decide +kernel, by decide +kernel⟩
theorem ok_Ring_copies (F : Fun K "copies" "Ring.copies" s_Ring_copies f fd) (R : RingT K) : FnOk P w K mg base CX0 1 f fd ["self"] (sp_Rn (cR K) fun _ _ k => k) := by
  refine F.ok sc_Ring_copies (fun vs H Q E h => ?_) (fun cdv A outer s H vs Q E hr h => ?_)
  · obtain ⟨p, rs, e, k, rfl, _⟩ := h
    rfl
  · obtain ⟨p, rs, e, k, rfl, r, hg, q⟩ := h
    refine ⟨_, (pss_one (ps_ret (pe_fldK (K := K) (pv 0) rfl))), ?_⟩
    obtain ⟨dx, v, u, w, ep, _⟩ := r.ex
    exact ⟨_, rfl, p, _, dx, _, _, rfl, ep, R.cl, R.na_copy_count, rfl, q H (Kp.refl _ _)⟩
abbrev s_Ring_size : Stmt := inClass (top 51) 5
theorem sc_Ring_size : FnScope ["self"] ["self"] (defScope s_Ring_size) := ⟨rfl, rfl, rfl, by decide +kernel, rfl, by decide +kernel, by decide +kernel⟩
theorem ok_Ring_size (F : Fun K "size" "Ring.size" s_Ring_size f fd) (T : Txt K mg) (R : RingT K) : FnOk P w K mg base CX0 1 f fd ["self"] (sp_Rn (cR K) fun rs _ _ => rs.length) := by
  refine F.ok sc_Ring_size (fun vs H Q E h => ?_) (fun cdv A outer s H vs Q E hr h => ?_)
  · obtain ⟨p, rs, e, k, rfl, _⟩ := h
    rfl
  · obtain ⟨p, rs, e, k, rfl, r, hg, q⟩ := h
    refine ⟨_, (pss_one (ps_ret (pe_callB (r := rLen K) call_len_seq rfl T.f_len PySem.boot_len (pa_cons (pe_fldK (K := K) (pv 0) rfl) pa_nil)))), ?_⟩
    obtain ⟨dx, v, u, w, ep, tv, _⟩ := r.ex
    have tv' : TD H v (.tuple (rs.map recD)) := tv
    obtain ⟨a, xs, rfl, ha, hx⟩ := tv'.tupI
    have hl : (xs.length : Int) = rs.length := by
      have := hx.len
      simp at this
      omega
    refine ⟨_, rfl, p, _, dx, _, _, rfl, ep, R.cl, R.na_recipes_given, rfl, a, xs, rfl, .inr (SqT.of ha), ?_⟩
    show Q (.int (xs.length : Int)) H
    rw [hl]
    exact q H (Kp.refl _ _)
/-- the rows -/
def sp_Ring_rows (C : Addr) : Sp := fun vs H Q _ => ∃ (p : Addr) (rs : List Rec) (e : Int) (k : Nat), vs = [.ref p] ∧ RingO H C p rs e k ∧ ∀ w, TD H w (.tuple ((ringR rs e k).map rowD)) → Q w H
abbrev s_Ring_rows : Stmt := inClass (top 51) 6
theorem sc_Ring_rows : FnScope ["self"] ["self"] (defScope s_Ring_rows) := ⟨rfl, rfl, rfl, by decide +kernel, rfl, by decide +kernel, by decide +kernel⟩
theorem ok_Ring_rows (F : Fun K "rows" "Ring.rows" s_Ring_rows f fd) (R : RingT K) : FnOk P w K mg base CX0 1 f fd ["self"] (sp_Ring_rows (cR K)) := by
  refine F.ok sc_Ring_rows (fun vs H Q E h => ?_) (fun cdv A outer s H vs Q E hr h => ?_)
  · obtain ⟨p, rs, e, k, rfl, _⟩ := h
    rfl
  · obtain ⟨p, rs, e, k, rfl, r, q⟩ := h
    refine ⟨_, (pss_one (ps_ret (pe_fldK (K := K) (pv 0) rfl))), ?_⟩
    obtain ⟨dx, v, u, w, ep, _, _, tw⟩ := r.ex
    exact ⟨_, rfl, p, _, dx, _, _, rfl, ep, R.cl, R.na_row_list, rfl, q w tw⟩
theorem ed_Ring_rows {C : Addr} {σ : L2.St} {H : Hp} {to : TE} {E : XK} {p : Addr} {rs : List Rec} {e : Int} {k : Nat} (ho : EvV to σ H (.ref p)) (r : RingO H C p rs e k) : EvD (tProp C (sp_Ring_rows C) [] E to) σ H (.tuple ((ringR rs e k).map rowD)) := fun H1 k1 Q q =>
  ho H1 k1 _ fun H2 k2 => by
    have r2 := r.kp (k1.trans k2) (fun m => nomatch m)
    obtain ⟨dx, v, u, w, ep, _⟩ := r2.ex
    exact ⟨p, dx, _, rfl, ep, p, rs, e, k, rfl, r2, fun w t => q w H2 k2 t⟩
def wordsN (rs : List Rec) (k : Nat) : Int := 4 * ((rs.length : Int) + 2) * (k : Int)
abbrev s_Ring_words : Stmt := inClass (top 51) 8
theorem sc_Ring_words : FnScope ["self"] ["self"] (defScope s_Ring_words) := ⟨rfl, rfl, rfl, by decide +kernel, rfl, by decide +kernel, by decide +kernel⟩
theorem ok_Ring_words (F : Fun K "words" "Ring.words" s_Ring_words f fd) (T : Txt K mg) (R : RingT K) (p_size : GP P w K mg base 1 (cR K) "size" (sp_Rn (cR K) fun rs _ _ => rs.length)) : FnOk P w K mg base CX0 3 f fd ["self"] (sp_Rn (cR K) fun rs _ k => wordsN rs k) := by
  refine F.ok sc_Ring_words (fun vs H Q E h => ?_) (fun cdv A outer s H vs Q E hr h => ?_)
  · obtain ⟨p, rs, e, k, rfl, _⟩ := h
    rfl
  · obtain ⟨p, rs, e, k, rfl, r, hg, q⟩ := h
    refine ⟨_, (pss_one (ps_ret (pe_op op_mul (pe_op op_mul (pe_gi T.c_STORES_rings rfl) (pe_op op_add (pe_gp p_size (hr.mono (by decide)) (pv 0)) pe_int)) (pe_fldK (K := K) (pv 0) rfl)))), ?_⟩
    obtain ⟨dx, v, u, w, ep, _⟩ := r.ex
    have hgn := hg.rs.1
    have hgk := hg.k
    refine sd_ret (d := .int (wordsN rs k)) ?_ fun v1 H1 k1 t1 => ?_
    · exact ed_mul (ed_mul ed_i (ed_add (ed_Rn (ev_var rfl) r hg) ed_i) (.inl ⟨by decide, by decide⟩)) (ed_v (ev_fld (ev_var rfl) ep R.cl R.na_copy_count rfl) (.int k)) (.inl ⟨by omega, by omega⟩)
    · cases t1
      exact q H1 k1
/-- its length -/
def sp_Ring_len (C : Addr) : Sp := sp_Rn C fun rs e k => (ringR rs e k).length
abbrev s_Ring_len : Stmt := inClass (top 51) 9
theorem sc_Ring_len : FnScope ["self"] ["self"] (defScope s_Ring_len) := ⟨rfl, rfl, rfl, by decide +kernel, rfl, by decide +kernel, by decide +kernel⟩
theorem ok_Ring_len (F : Fun K "__len__" "Ring.__len__" s_Ring_len f fd) (T : Txt K mg) (R : RingT K) : FnOk P w K mg base CX0 1 f fd ["self"] (sp_Ring_len (cR K)) := by
  refine F.ok sc_Ring_len (fun vs H Q E h => ?_) (fun cdv A outer s H vs Q E hr h => ?_)
  · obtain ⟨p, rs, e, k, rfl, _⟩ := h
    rfl
  · obtain ⟨p, rs, e, k, rfl, r, hg, q⟩ := h
    refine ⟨_, (pss_one (ps_ret (pe_callB (r := rLen K) call_len_seq rfl T.f_len PySem.boot_len (pa_cons (pe_fldK (K := K) (pv 0) rfl) pa_nil)))), ?_⟩
    obtain ⟨dx, v, u, w, ep, _, _, tw⟩ := r.ex
    refine sd_ret (d := .int (ringR rs e k).length) ?_ fun v1 H1 k1 t1 => ?_
    · have h : EvD (tCB (rLen K) (tCons (tFld K (tVar 0) "row_list") tNil)) (L2.start ["self"] [.ref p]) H (.int ((ringR rs e k).map rowD).length) := ed_lenT (ed_v (ev_fld (ev_var rfl) ep R.cl R.na_row_list rfl) tw)
      rw [List.length_map] at h
      exact h
    · cases t1
      exact q H1 k1
/-- len(ring) -/
theorem ed_lenO {C : Addr} {σ : L2.St} {H : Hp} {ta : TE} {p : Addr} {rs : List Rec} {e : Int} {k : Nat} (ho : EvV ta σ H (.ref p)) (r : RingO H C p rs e k) (hg : RingG rs e k) : EvD (tCB (rLenO C (sp_Ring_len C)) (tCons ta tNil)) σ H (.int (ringR rs e k).length) := fun H1 k1 Q q =>
  ho H1 k1 _ fun H2 k2 => by
    have r2 := r.kp (k1.trans k2) (fun m => nomatch m)
    obtain ⟨dx, v, u, w, ep, _⟩ := r2.ex
    have hz := ringR_len hg
    exact ⟨p, dx, _, rfl, ep, p, rs, e, k, rfl, r2, hg, fun H3 k3 => ⟨_, rfl, ⟨by show (0 : Int) ≤ ((ringR rs e k).length : Int); omega, by show ((ringR rs e k).length : Int) < 2 ^ 63; omega⟩, q _ H3 (k2.trans k3) (.int _)⟩⟩
/-- the piece, the copy, the place of a row -/
def pieceAt (rs : List Rec) (e : Int) (k : Nat) (r : Int) : Str × Int × Int :=
  if r - lenP rs * k < 0 then ("P", r / lenP rs, r % lenP rs) else ("Q", (r - lenP rs * k) / lenQ rs e k, (r - lenP rs * k) % lenQ rs e k)
def pieceD (x : Str × Int × Int) : PyData := .tuple [.str x.1, .int x.2.1, .int x.2.2]
theorem lenP_b {rs : List Rec} (g : GoodRecs rs) : 14 ≤ lenP rs ∧ lenP rs ≤ 42 := by
  have h := pieceP_len g 0
  have h2 : 14 ≤ (pieceP rs 0).length := by
    simp only [pieceP, List.length_append, countR, List.length_cons, List.length_nil]
    omega
  unfold lenP
  omega
theorem lenQ_b (rs : List Rec) (e : Int) {k : Nat} (h : k ≤ 5) : 3 ≤ lenQ rs e k ∧ lenQ rs e k ≤ 113 := by
  have h2 : (12 + 2 * k) * k ≤ 22 * 5 := Nat.mul_le_mul (by omega) h
  unfold lenQ
  rw [pieceQ_len]
  omega
def sp_Ring_piece_at (C : Addr) : Sp := fun vs H Q _ => ∃ (p : Addr) (rs : List Rec) (e : Int) (k : Nat) (r : Int), vs = [.ref p, .int r] ∧ RingO H C p rs e k ∧ RingG rs e k ∧ ∀ v H', Kp [] H H' → TD H' v (pieceD (pieceAt rs e k r)) → Q v H'
abbrev s_Ring_piece_at : Stmt := inClass (top 51) 15
theorem sc_Ring_piece_at : FnScope ["self", "row", "length_p", "length_q", "behind"] ["self", "row"] (defScope s_Ring_piece_at) := ⟨rfl, rfl, rfl, by decide +kernel, rfl, by decide +kernel, by decide +kernel⟩
theorem ok_Ring_piece_at (F : Fun K "piece_at" "Ring.piece_at" s_Ring_piece_at f fd) (R : RingT K) : FnOk P w K mg base CX0 1 f fd ["self", "row"] (sp_Ring_piece_at (cR K)) := by
  refine F.ok sc_Ring_piece_at (fun vs H Q E h => ?_) (fun cdv A outer s H vs Q E hr h => ?_)
  · obtain ⟨p, rs, e, k, r, rfl, _⟩ := h
    rfl
  · obtain ⟨p, rs, e, k, r, rfl, ro, hg, q⟩ := h
    refine ⟨_, (pss_cons (ps_asg (pe_fldK (K := K) (pv 0) rfl) (pg_tup rfl (pgs_cons (pg_name (i := 2) sc_Ring_piece_at.nd rfl (Or.inl rfl)) (pgs_cons (pg_name (i := 3) sc_Ring_piece_at.nd rfl (Or.inl rfl)) pgs_nil))))
      (pss_cons (ps_set (i := 4) sc_Ring_piece_at.nd rfl (Or.inl rfl) (pe_op op_sub (pv 1) (pe_op op_mul (pv 2) (pe_fldK (K := K) (pv 0) rfl))))
      (pss_cons (ps_if (pt_cmpR op_lt (pv 4) pe_int (nomark _)) (pss_one (ps_ret (pe_tup (pa_cons pe_str (pa_cons (pe_op op_fdiv (pv 1) (pv 2)) (pa_cons (pe_op op_mod (pv 1) (pv 2)) pa_nil)))))) pss_nil)
      (pss_one (ps_ret (pe_tup (pa_cons pe_str (pa_cons (pe_op op_fdiv (pv 4) (pv 3)) (pa_cons (pe_op op_mod (pv 4) (pv 3)) pa_nil))))))))), ?_⟩
    obtain ⟨dx, v, u, w, ep, _, tu, _⟩ := ro.ex
    have hP := lenP_b hg.rs
    have hQ := lenQ_b rs e hg.k.2
    refine st_tup (ed_v (ev_fld (ev_var rfl) ep R.cl R.na_piece_lengths rfl) tu) rfl fun xs H1 k1 t1 => ?_
    have ex : xs = [V.int (lenP rs), .int (lenQ rs e k)] := TDs.ofInts (ns := [_, _]) t1
    subst ex
    refine ⟨_, _, rfl, ⟨_, _, rfl, rfl, ?_⟩⟩
    dsimp only
    refine sd_set (ed_sub (ed_var rfl (.int r)) (ed_mul (ed_var rfl (.int _)) (ed_v (ev_fld (ev_var rfl) (k1.get ep) R.cl R.na_copy_count rfl) (.int k)) (.inl ⟨by omega, by omega⟩))) fun v2 H2 k2 t2 => ?_
    cases t2
    dsimp only
    refine st_if (et_lt (ed_var rfl (.int _)) ed_i) (fun hc H3 k3 => ?_) fun hc H3 k3 => ?_
    · have e1 : pieceAt rs e k r = (("P" : Str), r / lenP rs, r % lenP rs) := if_pos (of_decide_eq_true hc)
      refine sd_ret (d := pieceD (pieceAt rs e k r)) ?_ fun v4 H4 k4 t4 => ?_
      rotate_left
      · exact q v4 H4 (((k1.trans k2).trans k3).trans k4) t4
      rw [e1]
      exact ed_tup (eds_cons ed_s (eds_cons (ed_fdiv (ed_var rfl (.int r)) (ed_var rfl (.int _)) ⟨by omega, by omega⟩) (eds_cons (ed_mod (ed_var rfl (.int r)) (ed_var rfl (.int _)) (by omega)) eds_nil)))
    · have e1 : pieceAt rs e k r = (("Q" : Str), (r - lenP rs * k) / lenQ rs e k, (r - lenP rs * k) % lenQ rs e k) := if_neg (of_decide_eq_false hc)
      delta tNext
      dsimp only
      refine sd_ret (d := pieceD (pieceAt rs e k r)) ?_ fun v4 H4 k4 t4 => ?_
      rotate_left
      · exact q v4 H4 (((k1.trans k2).trans k3).trans k4) t4
      rw [e1]
      exact ed_tup (eds_cons ed_s (eds_cons (ed_fdiv (ed_var rfl (.int _)) (ed_var rfl (.int _)) ⟨by omega, by omega⟩) (eds_cons (ed_mod (ed_var rfl (.int _)) (ed_var rfl (.int _)) (by omega)) eds_nil)))
theorem ed_piece_at {C : Addr} {σ : L2.St} {H : Hp} {ta tb : TE} {E : XK} {p : Addr} {rs : List Rec} {e : Int} {k : Nat} {r : Int} (ho : EvV ta σ H (.ref p)) (hb : EvD tb σ H (.int r)) (ro : RingO H C p rs e k) (hg : RingG rs e k) : EvD (tMeth C "piece_at" (sp_Ring_piece_at C) [] E ta (tCons tb tNil)) σ H (pieceD (pieceAt rs e k r)) := fun H1 k1 Q q =>
  ho H1 k1 _ fun H2 k2 => by
    obtain ⟨dx, v, u, w, ep, _⟩ := (ro.kp (k1.trans k2) (fun m => nomatch m)).ex
    refine ⟨p, dx, _, rfl, ep, rfl, ev_i hb H2 (k1.trans k2) _ fun H3 k3 => ?_⟩
    exact ⟨p, rs, e, k, r, rfl, ro.kp ((k1.trans k2).trans k3) (fun m => nomatch m), hg, fun v H4 k4 t4 => q v H4 ((k2.trans k3).trans k4) t4⟩
/-- the first memory -/
def firstM (k : Nat) (ws : List Int) : List Int := (List.replicate (4 * k) (0 :: (ws ++ [0]))).flatten
def sp_Ring_first_memory (C : Addr) : Sp := fun vs H Q _ => ∃ (p : Addr) (rs : List Rec) (e : Int) (k : Nat) (v : V) (ws : List Int), vs = [.ref p, v] ∧ RingO H C p rs e k ∧ RingG rs e k ∧ TD H v (.tuple (ws.map PyData.int)) ∧ ws.length ≤ 4 ∧
  ∀ u H', Kp [] H H' → TD H' u (.tuple ((firstM k ws).map PyData.int)) → Q u H'
abbrev s_Ring_first_memory : Stmt := inClass (top 51) 17
theorem sc_Ring_first_memory : FnScope ["self", "state"] ["self", "state"] (defScope s_Ring_first_memory) := ⟨rfl, rfl, rfl, by decide +kernel, rfl, by decide +kernel, by decide +kernel⟩
theorem ok_Ring_first_memory (F : Fun K "first_memory" "Ring.first_memory" s_Ring_first_memory f fd) (T : Txt K mg) (R : RingT K) : FnOk P w K mg base CX0 1 f fd ["self", "state"] (sp_Ring_first_memory (cR K)) := by
  refine F.ok sc_Ring_first_memory (fun vs H Q E h => ?_) (fun cdv A outer s H vs Q E hr h => ?_)
  · obtain ⟨p, rs, e, k, v, ws, rfl, _⟩ := h
    rfl
  · obtain ⟨p, rs, e, k, v, ws, rfl, ro, hg, tv, hw, q⟩ := h
    refine ⟨_, (pss_one (ps_ret (pe_op op_repT (pe_tup (pa_cons pe_int (StX.pa_star (pv 1) (pa_cons pe_int pa_nil)))) (pe_op op_mul (pe_gi T.c_STORES_rings rfl) (pe_fldK (K := K) (pv 0) rfl))))), ?_⟩
    obtain ⟨dx, v1, u, w, ep, _⟩ := ro.ex
    obtain ⟨a, xs, rfl, ha, hx⟩ := tv.tupI
    have ex : xs = ws.map V.int := TDs.ofInts hx
    subst ex
    have hgk := hg.k
    have h1 : EvDs (tCons (tC (.int 0)) (StX.tStar K (tVar 1) (tCons (tC (.int 0)) tNil))) (L2.start ["self", "state"] [.ref p, .ref a]) H ((0 :: (ws ++ [0])).map PyData.int) := by
      rw [List.map_cons, List.map_append]
      exact eds_cons ed_i (eds_starT rfl ha hx (eds_cons ed_i eds_nil))
    have e1 : (firstM k ws).map PyData.int = (List.replicate (4 * (k : Int)).toNat ((0 :: (ws ++ [0])).map PyData.int)).flatten := by
      have : (4 * (k : Int)).toNat = 4 * k := by omega
      rw [this, firstM, List.map_flatten, List.map_replicate]
    rw [e1] at q
    refine sd_ret (ed_repT (fun H1 k1 Q q => h1 H1 k1 _ fun vs H2 k2 t2 => ⟨by rw [t2.len]; exact le_line (by simp; omega), fun b hb => q _ _ (k2.newT hb) (.tup upd_same (t2.kp (Kp.new (S := []) hb)))⟩)
      (ed_mul ed_i (ed_v (ev_fld (ev_var rfl) ep R.cl R.na_copy_count rfl) (.int k)) (.inl ⟨by decide, by decide⟩)) (fun z => nomatch z) (by omega) (by omega) (by simp; omega)) fun u H' k' t' => q u H' k' t'
end
end Sr
/-! What rows a ring has. -/
namespace Sr
open PySem PySem.Spec PyProof.Rows L2
def Rg (t : Int) : Prop := 0 ≤ t ∧ t < 32
def ExecRow (N : Int) (r : Row) : Prop :=
  (∃ t a, r = ro "load" [t, a] ∧ Rg t ∧ 0 ≤ a ∧ a < N) ∨ (∃ t w, r = ro "set" [t, w] ∧ Rg t ∧ 0 ≤ w ∧ w ≤ 999999) ∨
  (∃ t s o c, r = ro "alike" [t, s, o, c] ∧ Rg t ∧ 0 ≤ s ∧ 0 ≤ o ∧ 0 ≤ c ∧ s + c ≤ N ∧ o + c ≤ N) ∨ (∃ t a, r = ro "store" [t, a] ∧ Rg t ∧ 0 ≤ a ∧ a < N) ∨
  (∃ t s o c, r = ro "move" [t, s, o, c] ∧ Rg t ∧ 0 ≤ s ∧ 0 ≤ o ∧ 0 ≤ c ∧ s + c ≤ N ∧ o + c ≤ N) ∨
  (∃ t a b c, r = ro "choose" [t, a, b, c] ∧ Rg t ∧ Rg a ∧ Rg b ∧ Rg c) ∨ ∃ z t a b, r = ro z [t, a, b] ∧ z ∈ opL ∧ Rg t ∧ Rg a ∧ Rg b
theorem ex_load {N t a : Int} (h : Rg t) (h1 : 0 ≤ a) (h2 : a < N) : ExecRow N (ro "load" [t, a]) := .inl ⟨t, a, rfl, h, h1, h2⟩
theorem ex_set {N t a : Int} (h : Rg t) (h1 : 0 ≤ a) (h2 : a ≤ 999999) : ExecRow N (ro "set" [t, a]) := .inr (.inl ⟨t, a, rfl, h, h1, h2⟩)
theorem ex_alike {N t s o c : Int} (h : Rg t) (h1 : 0 ≤ s) (h2 : 0 ≤ o) (h3 : 0 ≤ c) (h4 : s + c ≤ N) (h5 : o + c ≤ N) : ExecRow N (ro "alike" [t, s, o, c]) := .inr (.inr (.inl ⟨t, s, o, c, rfl, h, h1, h2, h3, h4, h5⟩))
theorem ex_store {N t a : Int} (h : Rg t) (h1 : 0 ≤ a) (h2 : a < N) : ExecRow N (ro "store" [t, a]) := .inr (.inr (.inr (.inl ⟨t, a, rfl, h, h1, h2⟩)))
theorem ex_move {N t s o c : Int} (h : Rg t) (h1 : 0 ≤ s) (h2 : 0 ≤ o) (h3 : 0 ≤ c) (h4 : s + c ≤ N) (h5 : o + c ≤ N) : ExecRow N (ro "move" [t, s, o, c]) := .inr (.inr (.inr (.inr (.inl ⟨t, s, o, c, rfl, h, h1, h2, h3, h4, h5⟩))))
theorem ex_choose {N t a b c : Int} (h : Rg t) (h1 : Rg a) (h2 : Rg b) (h3 : Rg c) : ExecRow N (ro "choose" [t, a, b, c]) := .inr (.inr (.inr (.inr (.inr (.inl ⟨t, a, b, c, rfl, h, h1, h2, h3⟩)))))
theorem ex_op {N : Int} {z : Str} {t a b : Int} (hz : z ∈ opL) (h : Rg t) (h1 : Rg a) (h2 : Rg b) : ExecRow N (ro z [t, a, b]) := .inr (.inr (.inr (.inr (.inr (.inr ⟨z, t, a, b, rfl, hz, h, h1, h2⟩)))))
theorem rg (t : Nat) (h : Nat.blt t 32 = true := by rfl) : Rg (t : Int) := ⟨by omega, by have := (Nat.blt_eq).mp h; omega⟩
theorem GoodRow.exec {n old N : Int} {ks : List Int} {r : Row} (h : GoodRow n ks r) (h0 : 0 ≤ old) (hN : old + 1 + n ≤ N) : ExecRow N (placeR old r) := by
  rcases h with ⟨t, w, rfl, ht, hw⟩ | ⟨t, i, rfl, ht, hi⟩ | ⟨z, t, ss, rfl, ht, hz, hm, hs⟩
  · exact ex_set ⟨by omega, by omega⟩ hw.1 hw.2
  · show ExecRow N (ro "load" [t, old + 1 + i])
    exact ex_load ⟨by omega, by omega⟩ (by omega) (by omega)
  · have hzl : ¬ z = "load" := by
      rintro rfl
      exact absurd hz (by decide +kernel)
    have e : placeR old (ro z (t :: ss)) = ro z (t :: ss) := if_neg hzl
    rw [e]
    have hr : ∀ s ∈ ss, Rg s := fun s m => ⟨(hs s m).1.1, by have := (hs s m).1.2; omega⟩
    rcases hz with rfl | hz
    · have h3 : ss.length = 3 := by
        have : manyS "choose" = 3 := by decide +kernel
        omega
      match ss, h3 with
      | [a, b, c], _ => exact ex_choose ⟨by omega, by omega⟩ (hr a (by simp)) (hr b (by simp)) (hr c (by simp))
    · have h2 : ss.length = 2 := by
        have : manyS z = 2 := (show ∀ x ∈ opL, manyS x = 2 by decide +kernel) z hz
        omega
      match ss, h2 with
      | [a, b], _ => exact ex_op hz ⟨by omega, by omega⟩ (hr a (by simp)) (hr b (by simp))
theorem countR_exec {N old a : Int} (h0 : 0 ≤ old) (h1 : old + 1 < N) (h2 : 0 ≤ a) (h3 : a < N) : ∀ r ∈ countR old a, ExecRow N r := by
  intro r hr
  simp only [countR, List.mem_cons, List.not_mem_nil, or_false] at hr
  rcases hr with rfl | rfl | rfl | rfl | rfl | rfl
  · exact ex_load (rg 24) h0 (by omega)
  · exact ex_load (rg 25) (by omega) h1
  · exact ex_set (rg 26) (by decide) (by decide)
  · exact ex_op (by decide +kernel) (rg 25) (rg 25) (rg 26)
  · exact ex_op (by decide +kernel) (rg 24) (rg 24) (rg 25)
  · exact ex_store (rg 24) h2 h3
theorem recsR_exec {n N old new : Int} : ∀ (rs : List Rec) (ix : Int), (∀ r ∈ rs, GoodRec n r) → 0 ≤ ix → ix + rs.length ≤ n → 0 ≤ old → old + 2 + n ≤ N → 0 ≤ new → new + 2 + n ≤ N → ∀ r ∈ recsR old new ix rs, ExecRow N r
  | [], _, _, _, _, _, _, _, _, r, m => by simp [recsR] at m
  | x :: rs, ix, hg, h0, h1, ho, hoN, hn, hnN, r, m => by
    rw [List.length_cons] at h1
    rcases List.mem_append.mp m with m | m
    · rcases List.mem_append.mp m with m | m
      · obtain ⟨row, hr, rfl⟩ := List.mem_map.mp m
        obtain ⟨i, hi⟩ := List.getElem?_of_mem hr
        exact ((hg x List.mem_cons_self).2.1 i row hi).exec ho (by omega)
      · simp only [chooseR, List.mem_cons, List.not_mem_nil, or_false] at m
        have hx := (hg x List.mem_cons_self).2.2.2
        rcases m with rfl | rfl | rfl | rfl
        · exact ex_load (rg 24) (by omega) (by omega)
        · exact ex_load (rg 25) (by omega) (by omega)
        · exact ex_choose (rg 24) (rg 25) (rg 24) ⟨hx.1, by omega⟩
        · exact ex_store (rg 24) (by omega) (by omega)
    · exact recsR_exec rs (ix + 1) (fun r m => hg r (List.mem_cons_of_mem _ m)) (by omega) (by omega) ho hoN hn hnN r m
theorem oldA_b {n : Nat} {c k : Nat} (h : c < k) : 0 ≤ oldA n c ∧ oldA n c + 4 * ((n : Int) + 2) ≤ 4 * ((n : Int) + 2) * (k : Int) := by
  unfold oldA
  have h1 : 4 * (n + 2) * c + 4 * (n + 2) ≤ 4 * (n + 2) * k := by
    rw [← Nat.mul_succ]
    exact Nat.mul_le_mul (Nat.le_refl _) h
  refine ⟨by have := Int.mul_nonneg (a := 4 * ((n : Int) + 2)) (b := c) (by omega) (by omega); exact this, ?_⟩
  exact_mod_cast h1
theorem newA_old (n c : Int) : newA n c = oldA n c + (n + 2) := rfl
theorem lookA_old (n c : Int) : lookA n c = oldA n c + 2 * (n + 2) := rfl
theorem bestA_old (n c : Int) : bestA n c = oldA n c + 3 * (n + 2) := rfl
theorem pieceP_exec {rs : List Rec} (g : GoodRecs rs) {c k : Nat} (h : c < k) : ∀ r ∈ pieceP rs c, ExecRow (wordsN rs k) r := by
  obtain ⟨h0, h1⟩ := oldA_b (n := rs.length) h
  unfold wordsN
  generalize hN : 4 * ((rs.length : Int) + 2) * (k : Int) = N at h1 ⊢
  generalize hO : oldA rs.length c = old at h0 h1
  have en : newA rs.length c = old + (rs.length + 2) := by rw [newA_old, hO]
  intro r hr
  unfold pieceP at hr
  simp only [hO, en] at hr
  rcases List.mem_append.mp hr with hr | hr
  · rcases List.mem_append.mp hr with hr | hr
    · rcases List.mem_append.mp hr with hr | hr
      · simp only [List.mem_cons, List.not_mem_nil, or_false] at hr
        rcases hr with rfl | rfl
        · exact ex_set (rg 24) (by decide) (by decide)
        · exact ex_store (rg 24) (by omega) (by omega)
      · exact countR_exec h0 (by omega) (by omega) (by omega) r hr
    · exact recsR_exec rs 0 g.2 (by omega) (by omega) h0 (by omega) (by omega) (by omega) r hr
  · exact countR_exec h0 (by omega) (by omega) (by omega) r hr
theorem voteR_exec {N e len look best src : Int} {news : List Int} (hl : 2 ≤ len) (he : 0 ≤ e ∧ e ≤ 999999) (h1 : 0 ≤ look ∧ look + len ≤ N) (h2 : 0 ≤ best ∧ best + len ≤ N) (h3 : 0 ≤ src ∧ src + len ≤ N) (h4 : ∀ a ∈ news, 0 ≤ a ∧ a + len ≤ N) : ∀ r ∈ voteR news e len look best src, ExecRow N r := by
  intro r hr
  unfold voteR at hr
  rcases List.mem_append.mp hr with hr | hr
  · rcases List.mem_append.mp hr with hr | hr
    · simp only [List.mem_cons, List.not_mem_nil, or_false] at hr
      rcases hr with rfl | rfl | rfl | rfl | rfl | rfl | rfl
      · exact ex_move (rg 24) h3.1 h1.1 (by omega) h3.2 h1.2
      · exact ex_load (rg 25) h1.1 (by omega)
      · exact ex_load (rg 26) (by omega) (by omega)
      · exact ex_op (by decide +kernel) (rg 26) (rg 25) (rg 26)
      · exact ex_load (rg 27) h2.1 (by omega)
      · exact ex_op (by decide +kernel) (rg 27) (rg 27) (rg 25)
      · exact ex_set (rg 28) (by decide) (by decide)
    · obtain ⟨a, ha, hr⟩ := List.mem_flatMap.mp hr
      have h5 := h4 a ha
      simp only [List.mem_cons, List.not_mem_nil, or_false] at hr
      rcases hr with rfl | rfl
      · exact ex_alike (rg 29) h1.1 h5.1 (by omega) h1.2 h5.2
      · exact ex_op (by decide +kernel) (rg 28) (rg 28) (rg 29)
  · simp only [List.mem_cons, List.not_mem_nil, or_false] at hr
    rcases hr with rfl | rfl | rfl | rfl | rfl
    · exact ex_set (rg 29) he.1 he.2
    · exact ex_op (by decide +kernel) (rg 28) (rg 29) (rg 28)
    · exact ex_op (by decide +kernel) (rg 26) (rg 26) (rg 27)
    · exact ex_op (by decide +kernel) (rg 26) (rg 26) (rg 28)
    · exact ex_move (rg 26) h1.1 h2.1 (by omega) h1.2 h2.2
theorem pieceQ_exec {n : Nat} {e : Int} (he : 0 ≤ e ∧ e ≤ 999999) {c k : Nat} (h : c < k) : ∀ r ∈ pieceQ n e k c, ExecRow (4 * ((n : Int) + 2) * (k : Int)) r := by
  obtain ⟨h0, h1⟩ := oldA_b (n := n) h
  have hnews : ∀ a ∈ newsA n k, 0 ≤ a ∧ a + ((n : Int) + 2) ≤ 4 * ((n : Int) + 2) * (k : Int) := by
    intro a ha
    obtain ⟨j, hj, rfl⟩ := List.mem_map.mp ha
    obtain ⟨g0, g1⟩ := oldA_b (n := n) (List.mem_range.mp hj)
    rw [newA_old]
    omega
  generalize hN : 4 * ((n : Int) + 2) * (k : Int) = N at h1 hnews ⊢
  generalize hO : oldA n c = old at h0 h1
  have el : lookA n c = old + 2 * (n + 2) := by rw [lookA_old, hO]
  have eb : bestA n c = old + 3 * (n + 2) := by rw [bestA_old, hO]
  intro r hr
  unfold pieceQ at hr
  rw [hO, el, eb] at hr
  rcases List.mem_append.mp hr with hr | hr
  · rcases List.mem_append.mp hr with hr | hr
    · simp only [List.mem_cons, List.not_mem_nil, or_false] at hr
      rcases hr with rfl | rfl
      · exact ex_set (rg 24) (by decide) (by decide)
      · exact ex_move (rg 24) h0 (by omega) (by omega) (by omega) (by omega)
    · obtain ⟨s, hs, hr⟩ := List.mem_flatMap.mp hr
      have hs' := hnews s hs
      exact voteR_exec (by omega) he ⟨by omega, by omega⟩ ⟨by omega, by omega⟩ hs' hnews r hr
  · simp only [List.mem_cons, List.not_mem_nil, or_false] at hr
    subst hr
    exact ex_move (rg 24) (by omega) h0 (by omega) (by omega) (by omega)
theorem ringR_exec {rs : List Rec} {e : Int} {k : Nat} (g : RingG rs e k) : ∀ r ∈ ringR rs e k, ExecRow (wordsN rs k) r := by
  intro r hr
  rcases List.mem_append.mp hr with hr | hr
  · obtain ⟨c, hc, hr⟩ := List.mem_flatMap.mp hr
    exact pieceP_exec g.rs (List.mem_range.mp hc) r hr
  · obtain ⟨c, hc, hr⟩ := List.mem_flatMap.mp hr
    have := g.e
    exact pieceQ_exec ⟨by omega, by omega⟩ (List.mem_range.mp hc) r hr
/-- what repr needs of a row -/
structure ShowRow (r : Row) : Prop where
  word : r.1 ∈ rowW
  size : r.2.length ≤ 4
  nums : ∀ x ∈ r.2, x.natAbs < 10 ^ 12
theorem rw_load : ("load" : Str) ∈ rowW := by decide +kernel
theorem rw_set : ("set" : Str) ∈ rowW := by decide +kernel
theorem rw_alike : ("alike" : Str) ∈ rowW := by decide +kernel
theorem rw_store : ("store" : Str) ∈ rowW := by decide +kernel
theorem rw_move : ("move" : Str) ∈ rowW := by decide +kernel
theorem rw_choose : ("choose" : Str) ∈ rowW := by decide +kernel
theorem ExecRow.show {N : Int} {r : Row} (h : ExecRow N r) (hN : N ≤ 1000) : ShowRow r := by
  have hop : ∀ x ∈ opL, x ∈ rowW := by decide +kernel
  unfold ExecRow Rg at h
  rcases h with ⟨t, a, rfl, h⟩ | ⟨t, a, rfl, h⟩ | ⟨t, s, o, c, rfl, h⟩ | ⟨t, a, rfl, h⟩ | ⟨t, s, o, c, rfl, h⟩ | ⟨t, a, b, c, rfl, h⟩ | ⟨z, t, a, b, rfl, hz, h⟩
  all_goals refine ⟨by first | exact hop _ hz | exact rw_load | exact rw_set | exact rw_alike | exact rw_store | exact rw_move | exact rw_choose, by simp, ?_⟩
  all_goals intro x hx
  all_goals simp only [List.mem_cons, List.not_mem_nil, or_false] at hx
  all_goals rcases hx with rfl | rfl | rfl | rfl <;> omega
end Sr
/-! Walks over data that is made on the way; comprehensions whose items change things. -/
namespace Sr
open PySem PySem.Spec PyProof.Rows L2
def YD (ds : List PyData) : Nat → Hp → V → Hp → Prop := fun i H x H' => H' = H ∧ ∃ d, ds[i]? = some d ∧ TD H' x d
/-- a walked thing that stands while only what stood at H is changed -/
def EvIF (wi : TI) (σ : L2.St) (H : Hp) (n : Nat) (Y : Nat → Hp → V → Hp → Prop) : Prop := ∀ H1, Kp [] H H1 → ∀ R : It → Hp → Prop,
  (∀ (J : It) (H2 : Hp) (G : Hp → Prop), Kp [] H1 H2 → Walk J n G Y → (∀ S H3, Kp S H2 H3 → (∀ b ∈ S, ∃ o, H b = some o) → G H3) → R J H2) → wi σ H1 R
section
variable {K : PySem.W.Frag} {σ : L2.St} {H H' : Hp} {ta tb te : TE} {i j n : Nat} {xs ys : List V} {a b l : Addr} {wi : TI} {Z : List Addr} {Y : Nat → Hp → V → Hp → Prop} {ds : List PyData} {D : Ends} {tb' : TS} {g : TG}
theorem TDs.yd {H1 : Hp} {x : V} (r : TDs H1 xs ds) (h : xs[i]? = some x) : ∃ d, ds[i]? = some d ∧ TD H1 x d := r.at h
theorem ei_tupD (ha : EvD te σ H (.tuple ds)) : EvIF (iTup K te) σ H ds.length (YD ds) := fun H1 k R q =>
  ha H1 k _ fun v H2 k2 t2 => by
    obtain ⟨a, xs, rfl, ea, ra⟩ := t2.tupI
    refine ⟨a, rfl, ⟨xs, SqT.of ea⟩, q _ H2 (fun H => SqT K H a xs ∧ TDs H xs ds) k2 ?_ fun S H3 k3 _ => ⟨SqT.of (k3.tup a xs ea), ra.kp k3⟩⟩
    have w := walk_tup (K := K) (a := a) (xs := xs)
    rw [ra.len] at w
    exact w.mono (fun H h => h.1) fun i H x H' _ g y => ⟨y.1, by
      obtain ⟨d, h1, h2⟩ := g.2.at y.2
      exact ⟨d, h1, by rw [y.1]; exact h2⟩⟩
theorem ei_listD (ha : EvL te σ H ds) : EvIF (iList K te) σ H ds.length (YD ds) := fun H1 k R q =>
  ha H1 k _ fun l xs H2 hl k2 ea ra => by
    refine ⟨l, rfl, ⟨xs, SqL.of ea⟩, q _ H2 (fun H => SqL K H l xs ∧ TDs H xs ds) k2 ?_ fun S H3 k3 hS => ⟨SqL.of (k3.oth l _ (fun m => ?_) ea), ra.kp k3⟩⟩
    · have w := walk_list (K := K) (a := l) (xs := xs)
      rw [ra.len] at w
      exact w.mono (fun H h => h.1) fun i H x H' _ g y => ⟨y.1, by
        obtain ⟨d, h1, h2⟩ := g.2.at y.2
        exact ⟨d, h1, by rw [y.1]; exact h2⟩⟩
    · obtain ⟨o, ho⟩ := hS l m
      rw [k.free hl] at ho
      cases ho
theorem ei_rangeF {x : Int} (ha : EvD ta σ H (.int x)) (hn : x = (n : Int)) (hb : n ≤ 1000000) : EvIF (iRng1 (tCons ta tNil)) σ H n (YFn fun i => .int (0 + i)) := fun H1 k R q =>
  ei_range ha hn hb H1 k R fun J H2 G k2 w hG => q J H2 G k2 w fun S H3 k3 _ => hG S H3 k3 fun _ m => nomatch m
theorem st_forF (hi : EvIF wi σ H n Y) (h : ∀ H2, Kp [] H H2 → ∃ Pv : Nat → L2.St → Hp → Prop, Pv 0 σ H2 ∧ (∀ i σ' H', Pv i σ' H' → ∃ S, Kp S H2 H' ∧ ∀ b ∈ S, ∃ o, H b = some o) ∧
      (∀ i x σ' H1 H1', i < n → Pv i σ' H1 → Y i H1 x H1' → g x σ' H1' fun σ2 H3 => tb' { D with nx := Pv (i + 1), ct := Pv (i + 1), bk := D.nx } σ2 H3) ∧ ∀ σ' H', Pv n σ' H' → D.nx σ' H') : tFor wi g tb' D σ H := hi H (Kp.refl _ _) _ fun J H2 G k2 w hG => by
  obtain ⟨Pv, h0, hS, hs, hd⟩ := h H2 k2
  exact for_it w Pv h0 (fun i σ' H' _ p => let ⟨S, k, z⟩ := hS i σ' H' p; hG S H' k z) hs hd
/-- a comprehension whose items may change what stands at S: I holds along, each item is data that is Good -/
theorem el_lcS {f : Nat → V} {vs : List Nat} {Q : VK} {S : List Addr} {I : Nat → Hp → Prop} {Good : Nat → PyData → Prop} (hi : EvIF wi σ H n Y) (hY : ∀ i H x H', Y i H x H' → H' = H ∧ x = f i) (hn : n ≤ 100000) (hw : ∀ x, wipe ((wipe σ vs).set j (some x)) vs = wipe σ vs)
    (hS : ∀ b ∈ S, ∃ o, H b = some o) (h0 : ∀ H1, Kp [] H H1 → I 0 H1) (hI : ∀ i D H1 H2, H D = none → I i H1 → Kp [D] H1 H2 → I i H2)
    (he : ∀ i H1, i < n → Kp S H H1 → I i H1 → ∀ Q : VK, (∀ v d H2, Kp S H1 H2 → I (i + 1) H2 → TD H2 v d → Good i d → Q v H2) → te ((wipe σ vs).set j (some (f i))) H1 Q)
    (q : ∀ D us ds H', H D = none → Kp S H H' → H' D = some (.lst us) → TDs H' us ds → ds.length = n → (∀ i d, ds[i]? = some d → Good i d) → I n H' → Q (.ref D) H') : tLc wi (gName j) tYes te vs σ H Q := hi H (Kp.refl _ _) _ fun J H2 G k2 w hG D hD => by
  have hD0 : H D = none := k2.free hD
  have hDS : D ∉ S := fun m => by
    obtain ⟨o, ho⟩ := hS D m
    rw [hD0] at ho
    cases ho
  refine lc_it w (fun i H' => ∃ us ds, Kp S H2 H' ∧ H' D = some (.lst us) ∧ TDs H' us ds ∧ ds.length = i ∧ (∀ m d, ds[m]? = some d → Good m d) ∧ I i H') ⟨[], [], Kp.new hD, upd_same, .nil, rfl, fun m d e => by simp at e, h0 _ (k2.trans (Kp.new hD))⟩
    (fun i H' _ ⟨us, ds, k, _⟩ => hG S H' k hS) (fun i x H' H'' hi' ⟨us, ds, k, e, t, hl, hr, hI'⟩ y => ?_) fun H' ⟨us, ds, k, e, t, hl, hr, hI'⟩ => q D us ds H' hD0 (k2.wid.trans k) e t hl hr hI'
  obtain ⟨z1, z2⟩ := hY i H' x H'' y
  subst z1 z2
  refine ⟨hw _, ?_⟩
  show te ((wipe σ vs).set j (some (f i))) H'' _
  refine he i H'' hi' (k2.wid.trans k) hI' _ fun v d H4 k4 i4 t4 g4 => ?_
  have e4 := k4.oth D _ hDS e
  have k5 : Kp [D] H4 (upd H4 D (.lst (us ++ [v]))) := Kp.put (List.mem_singleton.mpr rfl) e4 fun xs z => HO.noConfusion z
  refine ⟨us, e4, lt_line (by rw [t.len]; omega), us ++ [v], ds ++ [d], (k.trans k4).chg hD, upd_same, ((t.kp k4).app (.one t4)).kp k5, by simp [hl], fun m u em => ?_, hI _ D _ _ hD0 i4 k5⟩
  rcases Nat.lt_or_ge m ds.length with hm | hm
  · rw [List.getElem?_append_left hm] at em
    exact hr m u em
  · rw [List.getElem?_append_right hm] at em
    have e0 : m - ds.length = 0 := by
      rcases Nat.eq_zero_or_pos (m - ds.length) with z | z
      · exact z
      · rw [List.getElem?_eq_none (by simp; omega)] at em; cases em
    rw [e0] at em
    cases em
    have : m = i := by omega
    subst this
    exact g4
end
end Sr
/-! The texts of a placed row and of the row that loads into 24 differ. -/
namespace Sr
open PySem PySem.Spec PyProof.Rows L2
def preT (w : Str) (t : Int) : Str := ("(" : Str) ++ reprText w ++ (", " : Str) ++ Str.ofString (toString t) ++ (", " : Str)
def recW : List Str := ["set", "load", "choose", "add", "sub", "mul", "div", "mod", "less", "same"]
theorem pre_apart : ∀ w ∈ recW, ∀ t ∈ List.range 24, (preT w ((t : Nat) : Int)).cps.toList.take 11 ≠ (preT "load" 24).cps.toList.take 11 := by decide +kernel
theorem pre_long : ∀ w ∈ recW, ∀ t ∈ List.range 25, 11 ≤ (preT w ((t : Nat) : Int)).cps.toList.length := by decide +kernel
theorem shown_pre (w : Str) (t : Int) (d : PyData) (ds : List PyData) : ∃ more : Str, (PyData.tuple (.str w :: .int t :: d :: ds)).shown = preT w t ++ more := by
  refine ⟨Str.join ", " (PyData.shownAll (d :: ds)) ++ (")" : Str), ?_⟩
  have h : ∀ (c : Str) (ts : List Str) (a b : Str), Str.join ", " (a :: b :: c :: ts) = a ++ (", " : Str) ++ (b ++ (", " : Str) ++ Str.join ", " (c :: ts)) := fun c ts a b => rfl
  have e : ((reprText w :: Str.ofString (toString t) :: PyData.shownAll (d :: ds)).length == 1) = false := rfl
  show tupleText (reprText w :: Str.ofString (toString t) :: d.shown :: PyData.shownAll ds) = preT w t ++ (Str.join ", " (d.shown :: PyData.shownAll ds) ++ (")" : Str))
  have e2 : tupleText (reprText w :: Str.ofString (toString t) :: d.shown :: PyData.shownAll ds) = ("(" : Str) ++ Str.join ", " (reprText w :: Str.ofString (toString t) :: d.shown :: PyData.shownAll ds) ++ (")" : Str) := rfl
  rw [e2, h]
  generalize Str.join ", " (d.shown :: PyData.shownAll ds) = J
  unfold preT
  simp only [Str.append_assoc]
theorem take_of_pre {a m : Str} (h : 11 ≤ a.cps.toList.length) : (a ++ m).cps.toList.take 11 = a.cps.toList.take 11 := by
  show (a.cps ++ m.cps).toList.take 11 = _
  rw [Array.toList_append, List.take_append_of_le_length h]
theorem GoodRow.shape {n : Int} {ks : List Int} {r : Row} (h : GoodRow n ks r) : ∃ z t x ss, r = ro z (t :: x :: ss) ∧ z ∈ recW ∧ 0 ≤ t ∧ t < 24 := by
  rcases h with ⟨t, w, rfl, ht, _⟩ | ⟨t, i, rfl, ht, _⟩ | ⟨z, t, ss, rfl, ht, hz, hm, _⟩
  · exact ⟨_, t, _, [], rfl, List.mem_cons_self, ht⟩
  · exact ⟨_, t, _, [], rfl, List.mem_cons_of_mem _ List.mem_cons_self, ht⟩
  · have hz2 : z ∈ recW ∧ 2 ≤ manyS z := by
      rcases hz with rfl | hz
      · exact ⟨by decide +kernel, by decide +kernel⟩
      · exact (show ∀ x ∈ opL, x ∈ recW ∧ 2 ≤ manyS x by decide +kernel) z hz
    cases ss with
    | nil => simp at hm; omega
    | cons x ss => exact ⟨z, t, x, ss, rfl, hz2.1, ht⟩
theorem row_apart {n old x : Int} {ks : List Int} {r : Row} (h : GoodRow n ks r) : (rowD (placeR old r)).shown ≠ (rowD (ro "load" [24, x])).shown := by
  obtain ⟨z, t, y, ss, rfl, hz, h0, h1⟩ := h.shape
  obtain ⟨y', ss', hp⟩ : ∃ y' ss', placeR old (ro z (t :: y :: ss)) = ro z (t :: y' :: ss') := by
    unfold placeR
    split
    · rename_i c
      cases (show z = "load" from c)
      exact ⟨_, [], rfl⟩
    · exact ⟨_, _, rfl⟩
  obtain ⟨m1, e1⟩ := shown_pre z t (.int y') (ss'.map PyData.int)
  obtain ⟨m2, e2⟩ := shown_pre "load" 24 (.int x) []
  rw [hp]
  intro e
  have e3 : preT z t ++ m1 = preT "load" 24 ++ m2 := e1.symm.trans (Eq.trans (show (PyData.tuple (.str z :: .int t :: .int y' :: ss'.map PyData.int)).shown = (PyData.tuple [.str "load", .int 24, .int x]).shown from e) e2)
  obtain ⟨k, rfl⟩ : ∃ k : Nat, t = (k : Int) := ⟨t.toNat, by omega⟩
  have hk : k ∈ List.range 24 := List.mem_range.mpr (by omega)
  have hk2 : k ∈ List.range 25 := List.mem_range.mpr (by omega)
  have e4 := congrArg (fun s : Str => s.cps.toList.take 11) e3
  exact pre_apart z hz k hk ((take_of_pre (pre_long z hz k hk2)).symm.trans (e4.trans (take_of_pre (pre_long "load" (by decide +kernel) 24 (by decide)))))
end Sr
/-! The reader of rows. -/
namespace Sr
open PySem PySem.Spec PyProof.Rows L2
structure ReaderT (K : PySem.W.Frag) : Prop where
  cl : Cls K (cD K)
  na_values_given : NoAttr K (cD K) "values_given"
  na_word_count : NoAttr K (cD K) "word_count"
  na_index : NoAttr K (cD K) "index"
/-- a reader at p, at row i of L -/
structure ReaderO (H : Hp) (C p : Addr) (n : Int) (i : Nat) (L : List Row) : Prop where
  ex : ∃ dx v, H p = some (.ins C dx ([("values_given", v), ("word_count", .int n), ("index", .int (i : Nat))] : Fs)) ∧ TD H v (.tuple (L.map rowD))
theorem ReaderO.kp {H H' : Hp} {C p : Addr} {n : Int} {i : Nat} {L : List Row} {S : List Addr} (r : ReaderO H C p n i L) (kp : Kp S H H') (h : p ∉ S) : ReaderO H' C p n i L := by
  obtain ⟨dx, v, e, t⟩ := r.ex
  exact ⟨dx, v, kp.oth p _ h e, t.kp kp⟩
theorem ReaderO.kp0 {H H' : Hp} {C p : Addr} {n : Int} {i : Nat} {L : List Row} (r : ReaderO H C p n i L) (kp : Kp [] H H') : ReaderO H' C p n i L := r.kp kp fun m => nomatch m
theorem strSize {x : Str} (h : x ∈ rowW) : x.cps.size ≤ 64 := (show ∀ x ∈ rowW, x.cps.size ≤ 64 by decide +kernel) x h
theorem ShowRow.sho {r : Row} (h : ShowRow r) : Sho 60 1000000 (rowD r) := (Sho.tup (n := 0) (m := 64) (k := 1000000) (fun d m => by
  rcases List.mem_cons.mp m with rfl | m
  · exact .str (rowW_ok _ h.word) (strSize h.word)
  · obtain ⟨x, hx, rfl⟩ := List.mem_map.mp m
    exact .int (h.nums x hx)) (by have := h.size; simp; omega)).mono (by decide) (Nat.le_refl _)
section
variable {P : Program} {w : World} {K : PySem.W.Frag} {mg : Str → Option Value} {base : Heap} {f : Addr} {fd : FuncData}
abbrev s_RowReader_init : Stmt := inClass (top 52) 0
theorem sc_RowReader_init : FnScope ["self", "rows", "size"] ["self", "rows", "size"] (defScope s_RowReader_init) := ⟨rfl, rfl, rfl, by decide +kernel, rfl, by decide +kernel, by decide +kernel⟩
def sp_RowReader_init (C : Addr) : Sp := fun vs H Q _ => ∃ (p dx : Addr) (v : V) (n : Int) (L : List Row), vs = [.ref p, v, .int n] ∧ H p = some (.ins C dx []) ∧ TD H v (.tuple (L.map rowD)) ∧ ∀ H', Kp [p] H H' → ReaderO H' C p n 0 L → Q .non H'
theorem ok_RowReader_init (F : At K mg "__init__" "RowReader.__init__" s_RowReader_init ["self", "rows", "size"] f fd) (R : ReaderT K) : FnOk P w K mg base CX0 1 f fd ["self", "rows", "size"] (sp_RowReader_init (cD K)) := by
  refine F.fn.ok sc_RowReader_init (fun vs H Q E h => ?_) (fun cdv A outer s H vs Q E hr h => ?_)
  · obtain ⟨p, dx, v, n, L, rfl, _⟩ := h
    rfl
  · obtain ⟨p, dx, v, n, L, rfl, hp, hv, q⟩ := h
    refine ⟨_, (pss_cons (ps_fld (pv 0) (pv 1) rfl)
      (pss_cons (ps_fld (pv 0) (pv 2) rfl)
      (pss_one (ps_fld (pv 0) pe_int rfl)))), ?_⟩
    refine sf_d (ed_var rfl hv) (ev_var rfl) hp R.cl R.na_values_given fun v1 H1 k1 t1 e1 => ?_
    dsimp only
    refine sf_v (v := .int n) (ev_var rfl) (ev_var rfl) e1 R.cl R.na_word_count fun H2 k2 e2 => ?_
    dsimp only
    refine sf_v (v := .int 0) ev_c (ev_var rfl) e2 R.cl R.na_index fun H3 k3 e3 => ?_
    exact q H3 ((k1.trans k2).trans k3) ⟨dx, v1, e3, (t1.kp k2).kp k3⟩
abbrev s_RowReader_peek : Stmt := inClass (top 52) 1
theorem sc_RowReader_peek : FnScope ["self"] ["self"] (defScope s_RowReader_peek) := ⟨rfl, rfl, rfl, by decide +kernel, rfl, by decide +kernel, by decide +kernel⟩
def sp_peek (C : Addr) : Sp := fun vs H Q _ => ∃ (p : Addr) (n : Int) (i : Nat) (L : List Row) (r : Row), vs = [.ref p] ∧ ReaderO H C p n i L ∧ L[i]? = some r ∧ ∀ v H', Kp [] H H' → TD H' v (rowD r) → Q v H'
theorem ok_peek (F : At K mg "peek" "RowReader.peek" s_RowReader_peek ["self"] f fd) (T : Txt K mg) (R : ReaderT K) : FnOk P w K mg base CX0 1 f fd ["self"] (sp_peek (cD K)) := by
  refine F.fn.ok sc_RowReader_peek (fun vs H Q E h => ?_) (fun cdv A outer s H vs Q E hr h => ?_)
  · obtain ⟨p, n, i, L, r, rfl, _⟩ := h
    rfl
  · obtain ⟨p, n, i, L, r, rfl, ro, hi, q⟩ := h
    refine ⟨_, (pss_cons (ps_if (pt_cmpR op_eq (pe_fldK (K := K) (pv 0) rfl) (pe_callB (r := rLen K) call_len_seq rfl T.f_len PySem.boot_len (pa_cons (pe_fldK (K := K) (pv 0) rfl) pa_nil)) (nomark _)) (pss_one ps_never) pss_nil)
      (pss_one (ps_ret (pe_ix (r := rIxT K) ix_tup (pe_fldK (K := K) (pv 0) rfl) (pe_fldK (K := K) (pv 0) rfl) (fun _ _ => rfl))))), ?_⟩
    obtain ⟨dx, v, ep, tv⟩ := ro.ex
    have hlt : i < L.length := (List.getElem?_eq_some_iff.mp hi).1
    have hi2 : ∀ {H1 : Hp}, Kp [] H H1 → EvD (tFld K (tVar 0) "index") (L2.start ["self"] [.ref p]) H1 (.int (i : Nat)) := fun k => ed_v (ev_fld (ev_var rfl) (k.get ep) R.cl R.na_index rfl) (.int _)
    refine st_ifF (et_F (et_eqI (hi2 (Kp.refl _ _)) (ed_lenT (ed_v (ev_fld (ev_var rfl) ep R.cl R.na_values_given rfl) tv))) (decide_eq_false (by simp; omega))) fun H1 k1 => ?_
    delta tNext
    dsimp only
    refine sd_ret (ed_ixT (ed_v (ev_fld (ev_var rfl) (k1.get ep) R.cl R.na_values_given rfl) (tv.kp k1)) (hi2 k1) (L2.atI_nat (j := i) (by rw [List.getElem?_map, hi]; rfl))) fun v2 H2 k2 t2 => q v2 H2 (k1.trans k2) t2
theorem ed_peek {σ : L2.St} {H : Hp} {ta : TE} {E : XK} {C p : Addr} {n : Int} {i : Nat} {L : List Row} {r : Row} (ho : EvV ta σ H (.ref p)) (ro : ReaderO H C p n i L) (hi : L[i]? = some r) : EvD (tMeth C "peek" (sp_peek C) [] E ta tNil) σ H (rowD r) := fun H1 k1 Q q =>
  ho H1 k1 _ fun H2 k2 => by
    have r2 := ro.kp0 (k1.trans k2)
    obtain ⟨dx, v, ep, _⟩ := r2.ex
    exact ⟨p, dx, _, rfl, ep, rfl, p, n, i, L, r, rfl, r2, hi, fun v H3 k3 t3 => q v H3 (k2.trans k3) t3⟩
abbrev s_RowReader_expect : Stmt := inClass (top 52) 2
theorem sc_RowReader_expect : FnScope ["self", "row"] ["self", "row"] (defScope s_RowReader_expect) := ⟨rfl, rfl, rfl, by decide +kernel, rfl, by decide +kernel, by decide +kernel⟩
def sp_expect (C : Addr) : Sp := fun vs H Q _ => ∃ (p : Addr) (n : Int) (i : Nat) (L : List Row) (r : Row) (v : V), vs = [.ref p, v] ∧ ReaderO H C p n i L ∧ TD H v (rowD r) ∧ L[i]? = some r ∧ ShowRow r ∧ ∀ H', Kp [p] H H' → ReaderO H' C p n (i + 1) L → Q .non H'
theorem ok_expect (F : At K mg "expect" "RowReader.expect" s_RowReader_expect ["self", "row"] f fd) (T : Txt K mg) (R : ReaderT K) (m_peek : GM P w K mg base 1 (cD K) "peek" ["self"] (sp_peek (cD K))) : FnG P w K mg base 2 f fd ["self", "row"] (sp_expect (cD K)) := by
  refine fnG F.fn sc_RowReader_expect (fun vs H Q E h => ?_) (fun cdv A outer s H vs Q E hg0 hr h => ?_)
  · obtain ⟨p, n, i, L, r, v, rfl, _⟩ := h
    rfl
  · obtain ⟨p, n, i, L, r, v, rfl, ro, tv, hi, hs, q⟩ := h
    refine ⟨_, (pss_cons (ps_if (pt_cmpR op_ne (pe_callB (call_reprD hg0 hr) rfl T.f_repr (by decide +kernel) (pa_cons (pe_gm0 m_peek (hr.mono (by decide)) (pv 0)) pa_nil)) (pe_callB (call_reprD hg0 hr) rfl T.f_repr (by decide +kernel) (pa_cons (pv 1) pa_nil)) (nomark _)) (pss_one ps_never) pss_nil)
      (pss_one (ps_fldaug (pv 0) pe_int in_add))), ?_⟩
    refine st_ifF (et_F (et_neS (ed_repr (ed_peek (ev_var rfl) ro hi) hs.sho) (ed_repr (ed_var rfl tv) hs.sho)) (by simp)) fun H1 k1 => ?_
    obtain ⟨dx, v1, ep, tv1⟩ := (ro.kp0 k1).ex
    delta tNext
    dsimp only
    refine sf_add (y := 1) ed_i (ev_var rfl) ep R.cl R.na_index rfl (fun H Q q => ⟨_, _, rfl, rfl, q⟩) fun H2 k2 e2 => ?_
    exact q H2 (k1.wid.trans k2) ⟨dx, v1, e2, tv1.kp k2⟩
end
end Sr
/-! The reader: a result, a step. -/
namespace Sr
open PySem PySem.Spec PyProof.Rows L2
section
variable {P : Program} {w : World} {K : PySem.W.Frag} {mg : Str → Option Value} {base : Heap} {f : Addr} {fd : FuncData}
theorem et_notknown {σ : L2.St} {H : Hp} {te tb : TE} {kd : Addr} {ks : List Int} {i : Int} (ha : EvD te σ H (.int i)) (hb : EvV tb σ H (.ref kd)) (h : KnD H kd ks) (hi : i ∈ ks) : EvT (tB (tDNotIn te tb)) σ H false := fun H1 k Q q =>
  ev_i ha H1 k _ fun H2 k2 => hb H2 (k.trans k2) _ fun H3 k3 => by
    obtain ⟨kvs, e, _, hk⟩ := h.kp ((k.trans k2).trans k3)
    refine ⟨kd, _, rfl, DGet.k (k := Sum.inl i) e, _, rfl, ?_⟩
    rw [hk i hi]
    exact q H3 (k2.trans k3)
abbrev s_RowReader_read_result : Stmt := inClass (top 52) 3
theorem sc_RowReader_read_result : FnScope ["self", "known", "value"] ["self", "known"] (defScope s_RowReader_read_result) := ⟨rfl, rfl, rfl, by decide +kernel, rfl, by decide +kernel, by decide +kernel⟩
def sp_read_result (C : Addr) : Sp := fun vs H Q _ => ∃ (p kd : Addr) (n : Int) (i : Nat) (L : List Row) (ks : List Int) (res : Int), vs = [.ref p, .ref kd] ∧ ReaderO H C p n i L ∧ KnD H kd ks ∧ L[i]? = some (ro "choose" [24, 25, 24, res]) ∧ res ∈ ks ∧ (0 ≤ res ∧ res < 24) ∧
  ∀ H', Kp [p] H H' → ReaderO H' C p n (i + 1) L → Q (.int res) H'
theorem ok_read_result (F : At K mg "read_result" "RowReader.read_result" s_RowReader_read_result ["self", "known"] f fd) (T : Txt K mg) (R : ReaderT K) (m_peek : GM P w K mg base 1 (cD K) "peek" ["self"] (sp_peek (cD K)))
    (g_is_number : GF P w K mg base 1 "is_number" ["value", "least", "most"] sp_is_number) : FnG P w K mg base 2 f fd ["self", "known"] (sp_read_result (cD K)) := by
  refine fnG F.fn sc_RowReader_read_result (fun vs H Q E h => ?_) (fun cdv A outer s H vs Q E hg0 hr h => ?_)
  · obtain ⟨p, kd, n, i, L, ks, res, rfl, _⟩ := h
    rfl
  · obtain ⟨p, kd, n, i, L, ks, res, rfl, ro1, hk, hi, hm, hres, q⟩ := h
    refine ⟨_, (pss_cons (ps_set (i := 2) sc_RowReader_read_result.nd rfl (Or.inl rfl) (pe_gm0 m_peek (hr.mono (by decide)) (pv 0)))
      (pss_cons (ps_if (PW.pt (pw_or (pt_not (pt_val (pe_callB call_isi rfl T.f_isinstance (by decide +kernel) (pa_cons (pv 2) (pa_cons (pe_bltn (v := .ty "tuple") (u := .type "tuple") rfl T.f_tuple (by decide +kernel) rfl) pa_nil))))) (pw_or1 (pt_cmpR op_ne (pe_callB (r := rLen K) call_len_seq rfl T.f_len PySem.boot_len (pa_cons (pv 2) pa_nil)) (pe_gi T.c_CHOOSE_PARTS rfl) (nomark _))))) (pss_one ps_never) pss_nil)
      (pss_cons (ps_if (PW.pt (pw_or (pt_not (pt_val (pe_gf g_is_number (hr.mono (by decide)) rfl (pa_cons (pe_ix (r := rIxT K) ix_tup (pv 2) pe_int (fun _ _ => rfl)) (pa_cons pe_int (pa_cons (pe_gi T.c_INVALID rfl) pa_nil)))))) (pw_or1 (pt_cmp (pc_dnotin (hu_of hr) (pe_ix (r := rIxT K) ix_tup (pv 2) pe_int (fun _ _ => rfl)) (pv 1)) rfl)))) (pss_one ps_never) pss_nil)
      (pss_cons (ps_if (pt_cmpR op_ne (pe_callB (call_reprD hg0 hr) rfl T.f_repr (by decide +kernel) (pa_cons (pv 2) pa_nil)) (pe_callB (call_reprD hg0 hr) rfl T.f_repr (by decide +kernel) (pa_cons (pe_tup (pa_cons pe_str (pa_cons pe_int (pa_cons pe_int (pa_cons pe_int (pa_cons (pe_ix (r := rIxT K) ix_tup (pv 2) pe_int (fun _ _ => rfl)) pa_nil)))))) pa_nil)) (nomark _)) (pss_one ps_never) pss_nil)
      (pss_cons (ps_fldaug (pv 0) pe_int in_add)
      (pss_one (ps_ret (pe_ix (r := rIxT K) ix_tup (pv 2) pe_int (fun _ _ => rfl))))))))), ?_⟩
    refine sd_set (ed_peek (ev_var rfl) ro1 hi) fun v H1 k1 t1 => ?_
    have t1' : TD H1 v (.tuple [.str "choose", .int 24, .int 25, .int 24, .int res]) := t1
    dsimp only
    refine st_ifF (et_or (b := false) (c := false) (et_not (b := true) (et_val (ed_isi (ed_var rfl t1') kit_tt))) fun _ => et_F (et_neI (ed_lenT (ed_var rfl t1')) ed_i) rfl) fun H2 k2 => ?_
    try delta tNext
    dsimp only
    have t2 := t1'.kp k2
    refine st_ifF (et_or (b := false) (c := false) (et_not (b := true) (et_val (ed_bT (ed_is_number (ed_ixT (ed_var rfl t2) ed_i at4) ed_i ed_i) (by unfold inC; simp; omega)))) fun _ => et_notknown (ed_ixT (ed_var rfl t2) ed_i at4) (ev_var rfl) (hk.kp (k1.trans k2)) hm) fun H3 k3 => ?_
    try delta tNext
    dsimp only
    have t3 := t2.kp k3
    have hs : ShowRow (ro "choose" [24, 25, 24, res]) := ⟨rw_choose, by simp, fun x hx => by
      simp only [List.mem_cons, List.not_mem_nil, or_false] at hx
      rcases hx with rfl | rfl | rfl | rfl <;> omega⟩
    refine st_ifF (et_F (et_neS (ed_repr (ed_var rfl t3) hs.sho) (ed_repr (ed_tup (eds_cons ed_s (eds_cons ed_i (eds_cons ed_i (eds_cons ed_i (eds_cons (ed_ixT (ed_var rfl t3) ed_i at4) eds_nil)))))) hs.sho)) (by simp)) fun H4 k4 => ?_
    try delta tNext
    dsimp only
    have kk := ((k1.trans k2).trans k3).trans k4
    obtain ⟨dx, v1, ep, tv1⟩ := (ro1.kp0 kk).ex
    refine sf_add (y := 1) ed_i (ev_var rfl) ep R.cl R.na_index rfl (fun H Q q => ⟨_, _, rfl, rfl, q⟩) fun H5 k5 e5 => ?_
    dsimp only
    refine sd_ret (d := .int res) (ed_ixT (ed_var rfl ((t3.kp k4).kp k5)) ed_i at4) fun v6 H6 k6 t6 => ?_
    cases t6
    exact q H6 ((kk.wid.trans k5).trans k6.wid) (ReaderO.kp0 ⟨dx, v1, e5, tv1.kp k5⟩ k6)
abbrev s_RowReader_read_step : Stmt := inClass (top 52) 5
theorem sc_RowReader_read_step : FnScope ["self", "known", "old", "value"] ["self", "known", "old"] (defScope s_RowReader_read_step) := ⟨rfl, rfl, rfl, by decide +kernel, rfl, by decide +kernel, by decide +kernel⟩
def sp_read_step (C : Addr) : Sp := fun vs H Q _ => ∃ (p kd : Addr) (n old : Int) (i : Nat) (L : List Row) (ks : List Int) (r : Row), vs = [.ref p, .ref kd, .int old] ∧ ReaderO H C p n i L ∧ KnD H kd ks ∧ L[i]? = some (placeR old r) ∧ GoodRow n ks r ∧ (0 ≤ old ∧ old + 1 + n ≤ 999999) ∧
  ∀ v H', Kp [p] H H' → ReaderO H' C p n (i + 1) L → TD H' v (rowD r) → Q v H'
theorem ok_read_step (F : At K mg "read_step" "RowReader.read_step" s_RowReader_read_step ["self", "known", "old"] f fd) (T : Txt K mg) (R : ReaderT K) (m_peek : GM P w K mg base 1 (cD K) "peek" ["self"] (sp_peek (cD K)))
    (g_is_number : GF P w K mg base 1 "is_number" ["value", "least", "most"] sp_is_number) (g_is_recipe_row : GF P w K mg base 4 "is_recipe_row" ["thing", "size", "known"] sp_is_recipe_row) : FnOk P w K mg base CX0 5 f fd ["self", "known", "old"] (sp_read_step (cD K)) := by
  refine F.fn.ok sc_RowReader_read_step (fun vs H Q E h => ?_) (fun cdv A outer s H vs Q E hr h => ?_)
  · obtain ⟨p, kd, n, old, i, L, ks, r, rfl, _⟩ := h
    rfl
  · obtain ⟨p, kd, n, old, i, L, ks, r, rfl, ro1, hk, hi, hg, hold, q⟩ := h
    refine ⟨_, (pss_cons (ps_set (i := 3) sc_RowReader_read_step.nd rfl (Or.inl rfl) (pe_gm0 m_peek (hr.mono (by decide)) (pv 0)))
      (pss_cons (ps_if (PW.pt (pw_and (pt_val (pe_callB call_isi rfl T.f_isinstance (by decide +kernel) (pa_cons (pv 3) (pa_cons (pe_bltn (v := .ty "tuple") (u := .type "tuple") rfl T.f_tuple (by decide +kernel) rfl) pa_nil)))) (pw_and (pt_cmpR op_eq (pe_callB (r := rLen K) call_len_seq rfl T.f_len PySem.boot_len (pa_cons (pv 3) pa_nil)) pe_int (nomark _)) (pw_and (pt_cmpR op_eq (pe_ix (r := rIxT K) ix_tup (pv 3) pe_int (fun _ _ => rfl)) pe_str (nomark _)) (pw_and1 (pt_val (pe_gf g_is_number (hr.mono (by decide)) rfl (pa_cons (pe_ix (r := rIxT K) ix_tup (pv 3) pe_int (fun _ _ => rfl)) (pa_cons pe_int (pa_cons (pe_gi T.c_INVALID rfl) pa_nil)))))))))) (pss_one (ps_set (i := 3) sc_RowReader_read_step.nd rfl (Or.inl rfl) (pe_tup (pa_cons (pe_ix (r := rIxT K) ix_tup (pv 3) pe_int (fun _ _ => rfl)) (pa_cons (pe_ix (r := rIxT K) ix_tup (pv 3) pe_int (fun _ _ => rfl)) (pa_cons (pe_op op_sub (pe_op op_sub (pe_ix (r := rIxT K) ix_tup (pv 3) pe_int (fun _ _ => rfl)) (pv 2)) pe_int) pa_nil)))))) pss_nil)
      (pss_cons (ps_if (pt_not (pt_val (pe_gf g_is_recipe_row (hr.mono (by decide)) rfl (pa_cons (pv 3) (pa_cons (pe_fldK (K := K) (pv 0) rfl) (pa_cons (pv 1) pa_nil)))))) (pss_one ps_never) pss_nil)
      (pss_cons (ps_fldaug (pv 0) pe_int in_add)
      (pss_one (ps_ret (pv 3))))))), ?_⟩
    refine sd_set (ed_peek (ev_var rfl) ro1 hi) fun v H1 k1 t1 => ?_
    dsimp only
    have rest : ∀ (u : V) (H2 : Hp), Kp [] H H2 → TD H2 u (rowD r) → tSeq (tIfS (tNot (tB (tCall sp_is_recipe_row [] E0 (tCons (tVar 3) (tCons (tFld K (tVar 0) "word_count") (tCons (tVar 1) tNil)))))) tNever tNext) (tSeq (sFldAug K (tVar 0) (tC (.int 1)) rAdd "index") (tRet (tVar 3)))
        { nx := fun _ H' => Q .non H', rt := Q } [some (.ref p), some (.ref kd), some (.int old), some u] H2 := by
      intro u H2 k2 t2
      obtain ⟨dx, v1, ep, tv1⟩ := (ro1.kp0 k2).ex
      refine st_ifF (et_not (b := true) (et_val (ed_is_recipe_row (ed_var rfl t2) (ed_v (ev_fld (ev_var rfl) ep R.cl R.na_word_count rfl) (.int n)) (ev_var rfl) (hk.kp k2) hg))) fun H3 k3 => ?_
      try delta tNext
      dsimp only
      have kk := k2.trans k3
      obtain ⟨dx, v1, ep, tv1⟩ := (ro1.kp0 kk).ex
      refine sf_add (y := 1) ed_i (ev_var rfl) ep R.cl R.na_index rfl (fun H Q q => ⟨_, _, rfl, rfl, q⟩) fun H5 k5 e5 => ?_
      dsimp only
      refine sd_ret (ed_var rfl ((t2.kp k3).kp k5)) fun v6 H6 k6 t6 => ?_
      exact q v6 H6 ((kk.wid.trans k5).trans k6.wid) (ReaderO.kp0 ⟨dx, v1, e5, tv1.kp k5⟩ k6) t6
    obtain ⟨z, t, x, ss, rfl, hz, h0, h1⟩ := hg.shape
    by_cases hl : z = "load"
    · subst hl
      obtain ⟨rfl, hx⟩ : ss = [] ∧ 0 ≤ x ∧ x < n := by
        rcases hg with ⟨t', w, e, _⟩ | ⟨t', i', e, _, hi'⟩ | ⟨z', t', ss', e, _, hz', _⟩
        · have e1 := congrArg Prod.fst e
          exact absurd e1 (show ¬ ("load" : Str) = "set" by decide +kernel)
        · cases e
          exact ⟨rfl, hi'⟩
        · have e1 : (("load" : Str)) = z' := congrArg Prod.fst e
          subst e1
          exact absurd hz' (by decide +kernel)
      have t1' : TD H1 v (.tuple [.str "load", .int t, .int (old + 1 + x)]) := t1
      refine st_ifT (et_T (et_and (et_val (ed_isi (ed_var rfl t1') kit_tt)) fun _ => et_and (et_eqI (ed_lenT (ed_var rfl t1')) ed_i) fun _ => et_and (et_eqS (ed_ixT (ed_var rfl t1') ed_i at0) ed_s) fun _ => et_val (ed_bT (ed_is_number (ed_ixT (ed_var rfl t1') ed_i at2) ed_i ed_i) (by unfold inC; simp; omega))) (by simp)) fun H2 k2 => ?_
      have t2 := t1'.kp k2
      dsimp only
      refine sd_set (d := rowD (ro "load" [t, x])) ?_ fun u H3 k3 t3 => ?_
      · have e : x = old + 1 + x - old - 1 := by omega
        have h := ed_tup (eds_cons (ed_ixT (K := K) (σ := [some (.ref p), some (.ref kd), some (.int old), some v]) (ed_var (i := 3) rfl t2) ed_i at0) (eds_cons (ed_ixT (K := K) (ed_var (i := 3) rfl t2) ed_i at1) (eds_cons (ed_sub (ed_sub (ed_ixT (K := K) (ed_var (i := 3) rfl t2) ed_i at2) (ed_var (i := 2) rfl (.int old))) (ed_i (x := 1))) eds_nil))) rfl
        rw [← e] at h
        exact h
      · exact rest u H3 ((k1.trans k2).trans k3) t3
    · have hp : placeR old (ro z (t :: x :: ss)) = ro z (t :: x :: ss) := if_neg hl
      rw [hp] at t1
      have t1' : TD H1 v (.tuple (.str z :: .int t :: .int x :: ss.map PyData.int)) := t1
      refine st_ifF (et_F (et_and (et_val (ed_isi (ed_var rfl t1') kit_tt)) fun _ => et_and (et_eqI (ed_lenT (ed_var rfl t1')) ed_i) fun _ => et_and (c := false) (et_F (et_eqS (ed_ixT (ed_var rfl t1') ed_i at0) ed_s) (decide_eq_false hl)) fun z => Bool.noConfusion z) (by simp)) fun H2 k2 => ?_
      try delta tNext
      exact rest v H2 (k1.trans k2) (t1.kp k2)
end
end Sr
/-! The reader: a recipe. -/
namespace Sr
open PySem PySem.Spec PyProof.Rows L2
section
variable {K : PySem.W.Frag} {σ : L2.St} {H : Hp} {ta tb te to tv : TE} {d : PyData} {ds es : List PyData} {n : Nat} {x : Int} {D : Ends}
theorem et_eqL0 (ha : EvL0 ta σ H ds) (hb : EvL0 tb σ H es) (sd : Shp n (.list ds)) (se : Shp n (.list es)) (hn : n ≤ 64) : EvT (tTest (tOp (rEqD K) ta tb)) σ H (PyData.eqv (.list ds) (.list es)) := fun H1 k Q q =>
  ha H1 k _ fun l vs H2 k2 e2 t2 => hb H2 (k.trans k2) _ fun m us H3 k3 e3 t3 => ⟨.list ds, .list es, .lst (SqL.of (k3.get e2)) (t2.kp k3).dp, .lst (SqL.of e3) t3.dp, sd.ok hn, se.ok hn, _, rfl, q H3 (k2.trans k3)⟩
theorem et_neL0 (ha : EvL0 ta σ H ds) (hb : EvL0 tb σ H es) (sd : Shp n (.list ds)) (se : Shp n (.list es)) (hn : n ≤ 64) : EvT (tTest (tOp (rNeD K) ta tb)) σ H (!PyData.eqv (.list ds) (.list es)) := fun H1 k Q q =>
  ha H1 k _ fun l vs H2 k2 e2 t2 => hb H2 (k.trans k2) _ fun m us H3 k3 e3 t3 => ⟨.list ds, .list es, .lst (SqL.of (k3.get e2)) (t2.kp k3).dp, .lst (SqL.of e3) t3.dp, sd.ok hn, se.ok hn, _, rfl, q H3 (k2.trans k3)⟩
theorem ed_neg (ha : EvD ta σ H (.int x)) : EvD (tUn (rU fun i => .int (-i)) ta) σ H (.int (-x)) := fun H1 k Q q => ev_i ha H1 k _ fun H2 k2 => ⟨x, rfl, q _ H2 k2 (.int _)⟩
theorem st_expect {C p : Addr} {m : Int} {i : Nat} {L : List Row} {r : Row} (ho : EvV to σ H (.ref p)) (R : ReaderO H C p m i L) (hv : EvD tv σ H (rowD r)) (hi : L[i]? = some r) (hs : ShowRow r) (q : ∀ H1, Kp [p] H H1 → ReaderO H1 C p m (i + 1) L → D.nx σ H1) :
    tDrop (tMeth C "expect" (sp_expect C) [] E0 to (tCons tv tNil)) D σ H := ho H (Kp.refl _ _) _ fun H1 k1 => by
  obtain ⟨dx, v, ep, _⟩ := (R.kp0 k1).ex
  exact ⟨p, dx, _, rfl, ep, rfl, hv H1 k1 _ fun v H2 k2 t2 => ⟨p, m, i, L, r, v, rfl, R.kp0 (k1.trans k2), t2, hi, hs, fun H3 k3 R3 => q H3 ((k1.trans k2).wid.trans k3) R3⟩⟩
end
section
variable {P : Program} {w : World} {K : PySem.W.Frag} {mg : Str → Option Value} {base : Heap} {f : Addr} {fd : FuncData}
abbrev s_RowReader_read_recipe : Stmt := inClass (top 52) 4
theorem sc_RowReader_read_recipe : FnScope ["self", "index", "old", "new", "first", "others", "steps", "known", "result"] ["self", "index", "old", "new"] (defScope s_RowReader_read_recipe) := ⟨rfl, rfl, rfl, by decide +kernel, rfl, by decide +kernel, by decide +kernel⟩
/-- these rows stand at row i -/
def RowSeg (L : List Row) (i : Nat) (rows : List Row) : Prop := ∀ (j : Nat) (row : Row), rows[j]? = some row → L[i + j]? = some row
def sp_read_recipe (C : Addr) : Sp := fun vs H Q _ => ∃ (p : Addr) (n ix old new : Int) (i : Nat) (L : List Row) (r : Rec), vs = [.ref p, .int ix, .int old, .int new] ∧ ReaderO H C p n i L ∧ RowSeg L i (recR old new ix r) ∧ GoodRec n r ∧ (0 ≤ old ∧ old + 1 + n ≤ 999999) ∧ (∀ row ∈ L, ShowRow row) ∧
  ∀ v H', Kp [p] H H' → ReaderO H' C p n (i + (recR old new ix r).length) L → TD H' v (recD r) → Q v H'
theorem ok_read_recipe (F : At K mg "read_recipe" "RowReader.read_recipe" s_RowReader_read_recipe ["self", "index", "old", "new"] f fd) (T : Txt K mg) (R : ReaderT K) (m_peek : GM P w K mg base 1 (cD K) "peek" ["self"] (sp_peek (cD K)))
    (m_expect : GMG P w K mg base 2 (cD K) "expect" ["self", "row"] (sp_expect (cD K))) (m_read_result : GMG P w K mg base 2 (cD K) "read_result" ["self", "known"] (sp_read_result (cD K))) (m_read_step : GM P w K mg base 5 (cD K) "read_step" ["self", "known", "old"] (sp_read_step (cD K)))
    (g_choosing_rows : GF P w K mg base 1 "choosing_rows" ["index", "old", "new", "result"] sp_choosing_rows) : FnG P w K mg base 6 f fd ["self", "index", "old", "new"] (sp_read_recipe (cD K)) := by
  refine fnG F.fn sc_RowReader_read_recipe (fun vs H Q E h => ?_) (fun cdv A outer s H vs Q E hg0 hr h => ?_)
  · obtain ⟨p, n, ix, old, new, i, L, r, rfl, _⟩ := h
    rfl
  · obtain ⟨p, n, ix, old, new, i, L, r, rfl, ro1, hseg, hg, hold, hsL, q⟩ := h
    refine ⟨_, (pss_cons (ps_asg (pe_gf g_choosing_rows (hr.mono (by decide)) rfl (pa_cons (pv 1) (pa_cons (pv 2) (pa_cons (pv 3) (pa_cons pe_int pa_nil))))) (pg_star (n := 1) rfl (pgs_cons (pg_name (i := 4) sc_RowReader_read_recipe.nd rfl (Or.inl rfl)) (pgs_star (pg_name (i := 5) sc_RowReader_read_recipe.nd rfl (Or.inl rfl))))))
      (pss_cons (ps_par (i := 6) (j := 7) rfl sc_RowReader_read_recipe.nd rfl rfl (by decide) rfl rfl (pa_cons (pe_lst pa_nil) (pa_cons pe_dnewK pa_nil)) rfl)
      (pss_cons (ps_while PassesOwn.never (PW.pt (pw_or (pt_cmpR (op_eqD hr.units) (pv 6) (pe_lst pa_nil) (nomark _)) (pw_or1 (pt_cmpR op_ne (pe_callB (call_reprD hg0 hr) rfl T.f_repr (by decide +kernel) (pa_cons (pe_gm0 m_peek (hr.mono (by decide)) (pv 0)) pa_nil)) (pe_callB (call_reprD hg0 hr) rfl T.f_repr (by decide +kernel) (pa_cons (pv 4) pa_nil)) (nomark _))))) (pss_cons (ps_expr (pe_bm PySem.F.plainAttrs_list PySem.F.slot_list_append PySem.F.type_list_append mt_append (pv 6) (pa_cons (pe_gm m_read_step (hr.mono (by decide)) (pv 0) (pa_cons (pv 7) (pa_cons (pv 2) pa_nil))) pa_nil)))
      (pss_one (ps_dput (hu_of hr) (pv 7) (pe_ix (r := rIxT K) ix_tup (pe_ix (r := rIxL K) ix_list (pv 6) (pe_un un_neg pe_int) (fun _ _ => rfl)) pe_int (fun _ _ => rfl)) pe_bl rfl))))
      (pss_cons (ps_expr (pe_gmG m_expect hg0 (hr.mono (by decide)) (pv 0) (pa_cons (pv 4) pa_nil)))
      (pss_cons (ps_expr (pe_gmG m_expect hg0 (hr.mono (by decide)) (pv 0) (pa_cons (pe_ix (r := rIxL K) ix_list (pv 5) pe_int (fun _ _ => rfl)) pa_nil)))
      (pss_cons (ps_set (i := 8) sc_RowReader_read_recipe.nd rfl (Or.inl rfl) (pe_gmG m_read_result hg0 (hr.mono (by decide)) (pv 0) (pa_cons (pv 7) pa_nil)))
      (pss_cons (ps_expr (pe_gmG m_expect hg0 (hr.mono (by decide)) (pv 0) (pa_cons (pe_ix (r := rIxL K) ix_list (pv 5) pe_int (fun _ _ => rfl)) pa_nil)))
      (pss_one (ps_ret (pe_tup (pa_cons (pe_callTy call_tuple_of rfl T.f_tuple (by decide +kernel) (pa_cons (pv 6) pa_nil)) (pa_cons (pv 8) pa_nil)))))))))))), ?_⟩
    have hlen : (recR old new ix r).length = r.1.length + 4 := by simp [recR, chooseR]
    rw [hlen] at q
    have hch : ∀ (j : Nat) (row : Row), (chooseR ix old new r.2)[j]? = some row → L[i + r.1.length + j]? = some row := fun j row e => by
      rw [Nat.add_assoc]
      exact hseg _ _ (by unfold recR; rw [List.getElem?_append_right (by simp), List.length_map, Nat.add_sub_cancel_left]; exact e)
    have hst : ∀ (j : Nat) (row : Row), r.1[j]? = some row → L[i + j]? = some (placeR old row) := fun j row e => by
      have hj : j < r.1.length := (List.getElem?_eq_some_iff.mp e).1
      exact hseg _ _ (by unfold recR; rw [List.getElem?_append_left (by simpa using hj), List.getElem?_map, e]; rfl)
    refine el_choosing_rows (ed_var rfl (.int ix)) (ed_var rfl (.int old)) (ed_var rfl (.int new)) ed_i H (Kp.refl _ _) _ fun l vs H1 hl k1 e1 t1 => ?_
    obtain ⟨x0, x1, x2, x3, rfl⟩ : ∃ x0 x1 x2 x3, vs = [x0, x1, x2, x3] := by
      have := t1.len
      match vs, this with
      | [a, b, c, d], _ => exact ⟨a, b, c, d, rfl⟩
    refine ⟨l, _, rfl, .inr (SqL.of e1), (by simp), (by simp), fun o ho => ?_⟩
    have k2 : Kp [] H1 (upd H1 o (.lst [x1, x2, x3])) := Kp.new ho
    refine ⟨x0, _, rfl, ⟨_, _, rfl, rfl, ?_⟩⟩
    have t1' := t1.kp k2
    have eo : (upd H1 o (.lst [x1, x2, x3])) o = some (.lst [x1, x2, x3]) := upd_same
    have kk := k1.trans k2
    dsimp only
    show tSeq _ _ _ _ (upd H1 o (.lst [x1, x2, x3]))
    generalize upd H1 o (.lst [x1, x2, x3]) = H2 at k2 t1' eo kk ⊢
    have tx0 : TD H2 x0 (rowD (ro "load" [24, old + 1 + ix])) := by cases t1' with | cons a r => exact a
    have tx : TDs H2 [x1, x2, x3] [rowD (ro "load" [25, old + 1]), rowD (ro "choose" [24, 25, 24, 0]), rowD (ro "store" [24, new + 1 + ix])] := by cases t1' with | cons a r => exact r
    refine ⟨by show 0 ≤ sizeLine; decide, fun st hst0 => ?_⟩
    have k3 : Kp [] H2 (upd H2 st (.lst [])) := Kp.new hst0
    intro kd hkd0
    have k4 : Kp [] (upd H2 st (.lst [])) (upd (upd H2 st (.lst [])) kd (.dK [])) := Kp.new hkd0
    refine ⟨_, _, rfl, ?_⟩
    have hne : st ≠ kd := ne_of_none upd_same hkd0
    have est : (upd (upd H2 st (.lst [])) kd (.dK [])) st = some (.lst []) := k4.get upd_same
    have hkn := KnD.new hkd0
    have k34 := k3.trans k4
    have k04 := kk.trans k34
    have fst : H st = none := kk.free hst0
    have fkd : H kd = none := (kk.trans k3).free hkd0
    have fo : H o = none := k1.free ho
    generalize upd (upd H2 st (.lst [])) kd (.dK []) = H4 at est hkn k34 k04 ⊢
    have R4 := ro1.kp0 k04
    have tx0' := tx0.kp k34
    have tx' := tx.kp k34
    have eo' := k34.get eo
    obtain ⟨dx0, v0, ep0, _⟩ := ro1.ex
    have pst : st ≠ p := fun z => by rw [z, ep0] at fst; cases fst
    have pkd : kd ≠ p := fun z => by rw [z, ep0] at fkd; cases fkd
    have po : o ≠ p := fun z => by rw [z, ep0] at fo; cases fo
    have ost : o ≠ st := fun z => by
      have := k3.oth o _ (fun m => nomatch m) eo
      rw [z] at eo
      rw [eo] at hst0
      cases hst0
    have okd : o ≠ kd := fun z => by
      have := k3.get eo
      rw [z] at this
      rw [this] at hkd0
      cases hkd0
    have hg1 : 1 ≤ r.1.length := by
      have := hg.2.2.1
      cases h : r.1 with
      | nil => rw [h] at this; exact absurd this (by simp)
      | cons a b => simp
    have hsf : ShowRow (ro "load" [24, old + 1 + ix]) := hsL _ (List.mem_of_getElem? (hch 0 _ rfl))
    dsimp only
    refine ⟨fun m σ' H' => ∃ (j : Nat) (us : List V), m = r.1.length - j ∧ j ≤ r.1.length ∧ σ' = [some (.ref p), some (.int ix), some (.int old), some (.int new), some x0, some (.ref o), some (.ref st), some (.ref kd), none] ∧ Kp [p, st, kd] H4 H' ∧ ReaderO H' (cD K) p n (i + j) L ∧
      H' st = some (.lst us) ∧ TDs H' us ((r.1.take j).map rowD) ∧ KnD H' kd ((r.1.take j).map tgt), ⟨_, 0, [], rfl, Nat.zero_le _, rfl, Kp.refl _ _, R4, est, .nil, hkn⟩, ?_⟩
    rintro m σ' H' ⟨j, us, rfl, hj, rfl, kp, Rj, es, ts, hk⟩
    have hsh : Shp 2 (.list ((r.1.take j).map rowD)) := Shp.lst fun d m => by
      obtain ⟨row, hr', rfl⟩ := List.mem_map.mp m
      exact Shp.row (hg.word row (List.mem_of_mem_take hr'))
    have hsh0 : Shp 2 (.list []) := Shp.lst fun d m => nomatch m
    have h1 : EvT (tTest (tOp (rEqD K) (tVar 6) (tLst tNil))) [some (.ref p), some (.int ix), some (.int old), some (.int new), some x0, some (.ref o), some (.ref st), some (.ref kd), none] H' (PyData.eqv (.list ((r.1.take j).map rowD)) (.list [])) :=
      et_eqL0 (el0_var rfl es ts) (EvL.l0 (el_lst eds_nil (Nat.zero_le _))) hsh hsh0 (Nat.le_of_ble_eq_true rfl)
    rcases Nat.lt_or_ge j r.1.length with hlt | hge
    · obtain ⟨row, hrow⟩ : ∃ row, r.1[j]? = some row := ⟨_, List.getElem?_eq_getElem hlt⟩
      have hgr := hg.2.1 j row hrow
      have hLj := hst j row hrow
      have h2 := et_or (tu := tTest (tOp rNe (tCB (rRepr K) (tCons (tMeth (cD K) "peek" (sp_peek (cD K)) [] E0 (tVar 0) tNil) tNil)) (tCB (rRepr K) (tCons (tVar 4) tNil)))) h1 fun _ =>
        et_neS (ed_repr (ed_peek (ev_var rfl) Rj hLj) (hsL _ (List.mem_of_getElem? hLj)).sho) (ed_repr (ed_var (i := 4) rfl (tx0'.kp kp)) hsf.sho)
      refine (et_T h2 (by
        have e := row_apart (old := old) (x := old + 1 + ix) hgr
        have e2 : decide ((rowD (placeR old row)).shown = (rowD (ro "load" [24, old + 1 + ix])).shown) = false := decide_eq_false e
        have e3 : (!decide ((rowD (placeR old row)).shown = (rowD (ro "load" [24, old + 1 + ix])).shown)) = true := by rw [e2]; rfl
        exact Bool.or_eq_true_iff.mpr (.inr e3))) H' (Kp.refl _ _) _ fun H5 k5 => iteT ?_
      refine ⟨fun σ'' H'' => ∃ (us : List V), σ'' = [some (.ref p), some (.int ix), some (.int old), some (.int new), some x0, some (.ref o), some (.ref st), some (.ref kd), none] ∧ Kp [p, st, kd] H4 H'' ∧ ReaderO H'' (cD K) p n (i + (j + 1)) L ∧
        H'' st = some (.lst us) ∧ TDs H'' us ((r.1.take (j + 1)).map rowD) ∧ KnD H'' kd ((r.1.take (j + 1)).map tgt), fun σ'' H'' ⟨us, h⟩ => ⟨r.1.length - (j + 1), by omega, j + 1, us, rfl, hlt, h⟩, ?_⟩
      have R5 := Rj.kp0 k5
      obtain ⟨dx5, v5, ep5, _⟩ := R5.ex
      refine ⟨_, rfl, .inl ⟨rfl, _, SqL.of (k5.get es)⟩, _, rfl, p, dx5, _, rfl, ep5, rfl, _, rfl, _, rfl, p, kd, n, old, i + j, L, _, row, rfl, R5, hk.kp k5, hLj, hgr, hold, fun v H6 k6 R6 t6 => ?_⟩
      have es6 : H6 st = some (.lst us) := k6.oth st _ (fun m => pst (List.mem_singleton.mp m)) (k5.get es)
      have hul : us.length ≤ 3 := by
        have := ts.len
        have := hg.1
        simp at *
        omega
      refine ⟨st, us, v, rfl, rfl, es6, small1000 (by omega), ?_⟩
      have k7 : Kp [st] H6 (upd H6 st (.lst (us ++ [v]))) := Kp.put (List.mem_singleton.mpr rfl) es6 fun xs z => HO.noConfusion z
      have e7 : (upd H6 st (.lst (us ++ [v]))) st = some (.lst (us ++ [v])) := upd_same
      have k56 : Kp [p, st, kd] H' H6 := k5.wid.trans (k6.mono fun b m => by rw [List.mem_singleton.mp m]; exact List.mem_cons_self)
      have k57 : Kp [p, st, kd] H' (upd H6 st (.lst (us ++ [v]))) := k56.trans (k7.mono fun b m => by rw [List.mem_singleton.mp m]; simp)
      have ts7 : TDs (upd H6 st (.lst (us ++ [v]))) (us ++ [v]) ((r.1.take (j + 1)).map rowD) := by
        rw [take_snoc hrow]
        exact (ts.kp k57).app (.one (t6.kp k7))
      have R7 : ReaderO (upd H6 st (.lst (us ++ [v]))) (cD K) p n (i + (j + 1)) L := R6.kp k7 (fun m => pst (List.mem_singleton.mp m).symm)
      have hk7 : KnD (upd H6 st (.lst (us ++ [v]))) kd ((r.1.take j).map tgt) := by
        obtain ⟨kvs, ek, hh⟩ := hk.kp k5
        refine ⟨kvs, k7.oth kd _ (fun m => hne (List.mem_singleton.mp m).symm) (k6.oth kd _ (fun m => pkd (List.mem_singleton.mp m)) ek), hh⟩
      generalize upd H6 st (.lst (us ++ [v])) = H7 at k7 e7 k57 ts7 R7 hk7 ⊢
      obtain ⟨z, t, ss, er, et, _⟩ := row_tgt hgr
      have t67 : TD H7 v (.tuple (.str z :: .int t :: ss.map PyData.int)) := by
        have := t6.kp k7
        rw [er] at this
        exact this
      have e2 : EvV (tOp (rIxT K) (tOp (rIxL K) (tVar 6) (tUn (rU fun i => .int (-i)) (tC (.int 1)))) (tC (.int 1))) [some (.ref p), some (.int ix), some (.int old), some (.int new), some x0, some (.ref o), some (.ref st), some (.ref kd), none] H7 (.int t) := by
        refine ev_i (ed_ixT (ds := .str z :: .int t :: ss.map PyData.int) ?_ ed_i at1)
        have hx : TDs H7 (us ++ [v]) ((r.1.take j).map rowD ++ [rowD row]) := by rw [← take_snoc hrow]; exact ts7
        have := ed_ixL (K := K) (d := rowD row) (ev_var (i := 6) (σ := [some (.ref p), some (.int ix), some (.int old), some (.int new), some x0, some (.ref o), some (.ref st), some (.ref kd), none]) rfl) e7 hx (ed_neg ed_i) (L2.atI_last _ _)
        rw [er] at this
        exact this
      dsimp only
      refine ⟨_, rfl, e2 H7 (Kp.refl _ _) _ fun H8 k8 => ?_⟩
      obtain ⟨kvs, hp, hk8⟩ := (hk7.kp k8).put (t := t) (by have := hg.1; simp; omega)
      refine ⟨kd, _, rfl, hp, us ++ [v], rfl, ?_, ?_, ?_, ?_, ?_⟩
      · obtain ⟨kv0, e0, _⟩ := hk7.kp k8
        exact (kp.trans (k57.trans k8.wid)).putT (by simp) e0 fun xs z => HO.noConfusion z
      · obtain ⟨kv0, e0, _⟩ := hk7.kp k8
        exact (R7.kp0 k8).kp (Kp.put (S := [kd]) (List.mem_singleton.mpr rfl) e0 fun xs z => HO.noConfusion z) (fun m => pkd (List.mem_singleton.mp m).symm)
      · rw [upd_ne hne]
        exact k8.get e7
      · obtain ⟨kv0, e0, _⟩ := hk7.kp k8
        exact (ts7.kp k8).kp (Kp.put (S := [kd]) (List.mem_singleton.mpr rfl) e0 fun xs z => HO.noConfusion z)
      · rw [take_snoc hrow, et]
        exact hk8
    · have ej : j = r.1.length := by omega
      subst ej
      have hLj := hch 0 _ rfl
      have h2 := et_or (tu := tTest (tOp rNe (tCB (rRepr K) (tCons (tMeth (cD K) "peek" (sp_peek (cD K)) [] E0 (tVar 0) tNil) tNil)) (tCB (rRepr K) (tCons (tVar 4) tNil)))) h1 fun _ =>
        et_neS (ed_repr (ed_peek (ev_var rfl) Rj hLj) (hsL _ (List.mem_of_getElem? hLj)).sho) (ed_repr (ed_var (i := 4) rfl (tx0'.kp kp)) hsf.sho)
      rw [List.take_length] at ts hk h2
      refine (et_F h2 (by
        have e1 : PyData.eqv (.list (r.1.map rowD)) (.list []) = false := by
          cases h : r.1 with
          | nil => rw [h] at hg1; exact absurd hg1 (by simp)
          | cons a b => rfl
        rw [e1]
        simp)) H' (Kp.refl _ _) _ fun H5 k5 => iteF ?_
      have R5 := Rj.kp0 k5
      have kH : Kp [p, st, kd] H4 H5 := kp.trans k5.wid
      have ts5 := ts.kp k5
      have es5 := k5.get es
      have hk5 := hk.kp k5
      have eo5 : H5 o = some (.lst [x1, x2, x3]) := kH.oth o _ (fun m => by simp at m; rcases m with m | m | m; exact po m; exact ost m; exact okd m) eo'
      have tx5 := tx'.kp kH
      have tx05 := tx0'.kp kH
      have hL0 := hch 0 _ rfl
      have hL1 := hch 1 _ rfl
      have hL2 := hch 2 _ rfl
      have hL3 := hch 3 _ rfl
      have keep : ∀ {H1 H2 : Hp} {b : Addr} {ob : HO}, Kp [p] H1 H2 → b ≠ p → H1 b = some ob → H2 b = some ob := fun k n e => k.oth _ _ (fun m => n (List.mem_singleton.mp m)) e
      dsimp only
      refine st_expect (ev_var rfl) R5 (ed_var rfl tx05) hL0 (hsL _ (List.mem_of_getElem? hL0)) fun H6 k6 R6 => ?_
      dsimp only
      have eo6 := keep k6 po eo5
      have tx6 := tx5.kp k6
      refine st_expect (ev_var rfl) R6 (r := ro "load" [25, old + 1]) (ed_ixL (ev_var rfl) eo6 tx6 ed_i at0) hL1 (hsL _ (List.mem_of_getElem? hL1)) fun H7 k7 R7 => ?_
      dsimp only
      have hk7 : KnD H7 kd (r.1.map tgt) := by
        obtain ⟨kvs, ek, hh⟩ := hk5
        exact ⟨kvs, keep k7 pkd (keep k6 pkd ek), hh⟩
      obtain ⟨dx7, v7, ep7, _⟩ := R7.ex
      refine ⟨_, rfl, p, dx7, _, rfl, ep7, rfl, _, rfl, p, kd, n, _, L, _, r.2, rfl, R7, hk7, hL2, hg.2.2.1, hg.2.2.2, fun H8 k8 R8 => ?_⟩
      dsimp only
      have eo8 := keep k8 po (keep k7 po eo6)
      have tx8 := (tx6.kp k7).kp k8
      refine st_expect (ev_var rfl) R8 (r := ro "store" [24, new + 1 + ix]) (ed_ixL (ev_var rfl) eo8 tx8 ed_i at2) hL3 (hsL _ (List.mem_of_getElem? hL3)) fun H9 k9 R9 => ?_
      dsimp only
      have k59 : Kp [p] H5 H9 := ((k6.trans k7).trans k8).trans k9
      have es9 := keep k59 pst es5
      have ts9 := ts5.kp k59
      refine sd_ret (d := recD r) (ed_tup (eds_cons (ed_tupleL (el0_var rfl es9 ts9)) (eds_cons (ed_var rfl (.int r.2)) eds_nil))) fun v10 H10 k10 t10 => ?_
      refine q v10 H10 ?_ (R9.kp0 k10) t10
      have ka : Kp [p] H H5 := (k04.wid (S := [p])).thenM kH fun b hb => by
        simp at hb
        rcases hb with rfl | rfl | rfl
        · exact .inl (List.mem_singleton.mpr rfl)
        · exact .inr fst
        · exact .inr fkd
      exact (ka.trans k59).trans k10.wid
end
end Sr
/-! Rules: making instances, by what the text has. -/
namespace Sr
open PySem PySem.Spec PyProof.Rows L2
/-- C(e, ..), C by its global name -/
structure GMk (P : Program) (w : World) (K : PySem.W.Frag) (mg : Str → Option Value) (base : Heap) (k : Nat) (x : Str) (C : Addr) (ps : List Str) (sp : Sp) : Prop where
  mgx : mg x = some (.ref C)
  ex : ∃ (f : Addr) (fd : FuncData), Mk K C f ∧ Binds K fd ps [] ∧ FnOk P w K mg base CX0 k f fd ps sp
/-- .. with keywords behind n values -/
structure GMkK (P : Program) (w : World) (K : PySem.W.Frag) (mg : Str → Option Value) (base : Heap) (k n : Nat) (x : Str) (C : Addr) (ps ks : List Str) (sp : Sp) : Prop where
  mgx : mg x = some (.ref C)
  ex : ∃ (f : Addr) (fd : FuncData), Mk K C f ∧ KBn K fd ps (n + 1) ks (fun us ws => us ++ ws) (fun vs zs => vs ++ zs) ∧ FnOk P w K mg base CX0 k f fd ps sp
section
variable {X : Cx} {k n : Nat} {C : Addr} {ps ks : List Str} {sp : Sp} {x y : Str} {p pos : Pos} {e : Expr} {es : List Expr} {kws : List Keyword} {t tk : TA} {te : TE}
theorem pe_mk (G : GMk X.prog X.w X.K X.mg X.base k x C ps sp) (hr : Room (k + 1) X.A) (hg : Gl X x) (ha : PA X (e :: es) t)
    (hdb : (x == ("__debug__" : Str)) = false := by decide) (he : starEach (e :: es) X.env = (false, eval e X.env) :: starEach es X.env := by rfl) (hpl : (backTo pos (starEach es X.env)).any (·.1) = false := by rfl) :
    PE X (.Call (.Name x p) (e :: es) [] pos) (tMake C sp [] E0 t) := by
  obtain ⟨f, fd, h1, h2, h3⟩ := G.ex
  exact pe_make h1 h3 hr hg G.mgx h2 .nil pass0 ha hdb he hpl
theorem pe_mkK (G : GMkK X.prog X.w X.K X.mg X.base k n x C ps ks sp) (hr : Room (k + 1) X.A) (hg : Gl X x) (ha : PA X (e :: es) t) (hkw : PK X kws tk)
    (hall : (backToKw pos (keywordEach kws X.env)).all (·.1.isSome) = true := by rfl) (hks : (backToKw pos (keywordEach kws X.env)).filterMap (·.1) = ks := by rfl) (hdb : (x == ("__debug__" : Str)) = false := by decide)
    (he : starEach (e :: es) X.env = (false, eval e X.env) :: starEach es X.env := by rfl) (hpl : ((backTo pos (starEach (e :: es) X.env)).any (·.1) || (backToKw pos (keywordEach kws X.env)).any (·.1.isNone)) = false := by rfl) :
    PE X (.Call (.Name x p) (e :: es) kws pos) (tMakeK C n ks.length sp (fun vs zs => vs ++ zs) E0 t tk) := by
  obtain ⟨f, fd, h1, h2, h3⟩ := G.ex
  exact pe_makeK h1 h3 hr hg G.mgx h2 pass0 ha hkw hall hks hdb he hpl
theorem pe_mkV (G : GMkK X.prog X.w X.K X.mg X.base k n x C ps ks sp) (hr : Room (k + 1) X.A) (he0 : PE X (.Name y p) te) (ha : PA X (e :: es) t) (hkw : PK X kws tk)
    (hall : (backToKw pos (keywordEach kws X.env)).all (·.1.isSome) = true := by rfl) (hks : (backToKw pos (keywordEach kws X.env)).filterMap (·.1) = ks := by rfl)
    (he : starEach (e :: es) X.env = (false, eval e X.env) :: starEach es X.env := by rfl) (hpl : ((backTo pos (starEach (e :: es) X.env)).any (·.1) || (backToKw pos (keywordEach kws X.env)).any (·.1.isNone)) = false := by rfl) :
    PE X (.Call (.Name y p) (e :: es) kws pos) (tMakeV C n ks.length sp (fun vs zs => vs ++ zs) E0 te t tk) := by
  obtain ⟨f, fd, h1, h2, h3⟩ := G.ex
  exact pe_makeV he0 h1 h3 hr h2 pass0 ha hkw hall hks he hpl
/-- C.m(e, .., k = v, ..), m a classmethod -/
structure GCm (P : Program) (w : World) (K : PySem.W.Frag) (mg : Str → Option Value) (base : Heap) (k n : Nat) (C : Addr) (m : Str) (ps ks : List Str) (sp : Sp) : Prop where
  ex : ∃ (mc : Value) (pp f : Addr) (fd : FuncData), ClX.CRead K C mc ∧ ClX.CMet K C mc m pp f ∧ KBn K fd ps (n + 1) ks (fun us ws => us ++ ws) (fun vs zs => vs ++ zs) ∧ FnG P w K mg base k f fd ps sp
theorem pe_cmG {o : Expr} {m : Str} {apos : Pos} {pl : Sem Bool} {ta : TE} (G : GCm X.prog X.w X.K X.mg X.base k n C m ps ks sp) (hgu : X.A.guards = some []) (hr : Room k X.A) (he0 : PE X o ta) (ha : PA X (e :: es) t) (hkw : PK X kws tk)
    (hall : (backToKw pos (keywordEach kws X.env)).all (·.1.isSome) = true := by rfl) (hks : (backToKw pos (keywordEach kws X.env)).filterMap (·.1) = ks := by rfl)
    (he : starEach (e :: es) X.env = (false, eval e X.env) :: starEach es X.env := by rfl) (hpl : ((backTo pos (starEach (e :: es) X.env)).any (·.1) || (backToKw pos (keywordEach kws X.env)).any (·.1.isNone)) = false := by rfl)
    (ht : eval (.Call (.Attribute o m apos) (e :: es) kws pos) X.env = (do
      let ov ← eval o X.env
      standAt apos.atName
      let (g, first) ← holding [ov] (getMethod ov m pl)
      callWith pos g first (backTo pos (starEach (e :: es) X.env)) (backToKw pos (keywordEach kws X.env))) := by rfl) :
    PE X (.Call (.Attribute o m apos) (e :: es) kws pos) (tCMethK C n ks.length sp E0 ta t tk) := by
  obtain ⟨mc, pp, f, fd, h1, h2, h3, h4⟩ := G.ex
  exact pe_cmethKG hgu he0 h1 h2 h4 hr h3 ha hkw hall hks he hpl ht
end
/-- a new instance -/
theorem newIns {H : Hp} {C x dx : Addr} (hx : H x = none) (hdx : H dx = none) (ne : dx ≠ x) : Kp [] H (upd (upd H dx (.own x)) x (.ins C dx [])) ∧ (upd (upd H dx (.own x)) x (.ins C dx [])) x = some (.ins C dx []) :=
  ⟨(Kp.new hdx).newT (by rw [upd_ne (Ne.symm ne)]; exact hx), upd_same⟩
end Sr
/-! The reader: recipes; Ring.read. -/
namespace Sr
open PySem PySem.Spec PyProof.Rows L2
local macro_rules | `(tactic| walk_at "ed") => `(tactic| repeat' (first | exact eds_nil | refine eds_cons ?_ ?_ | refine ed_tup ?_ | exact ed_i | exact ed_s | exact ed_var rfl (TD.int _) | exact ed_var rfl (TD.str _) | exact ed_var rfl (by assumption) | refine ed_add ?_ ?_ | refine ed_sub ?_ ?_))
theorem tcb1 {r : List V → Hp → VK → Prop} {te : TE} {σ : L2.St} {H : Hp} {Q : VK} (h : te σ H fun v H1 => r [v] H1 Q) : tCB r (tCons te tNil) σ H Q := h
theorem on1 {H : Hp} {p : Addr} {o : HO} (e : H p = some o) : ∀ b ∈ [p], ∃ o, H b = some o := fun b m => ⟨o, by rw [List.mem_singleton.mp m]; exact e⟩
theorem RowSeg.app {L : List Row} {i : Nat} {xs ys : List Row} (h : RowSeg L i (xs ++ ys)) : RowSeg L i xs ∧ RowSeg L (i + xs.length) ys :=
  ⟨fun j row e => h j row (by rw [List.getElem?_append_left (List.getElem?_eq_some_iff.mp e).1]; exact e), fun j row e => by
    rw [Nat.add_assoc]
    exact h _ row (by rw [List.getElem?_append_right (Nat.le_add_right _ _), Nat.add_sub_cancel_left]; exact e)⟩
theorem recsR_split (old new : Int) : ∀ (rs : List Rec) (ix : Int) (i : Nat) (r : Rec), rs[i]? = some r → ∃ rest, recsR old new ix rs = recsR old new ix (rs.take i) ++ (recR old new (ix + i) r ++ rest)
  | [], _, _, _, e => by simp at e
  | x :: rs, ix, 0, r, e => by
    simp at e
    subst e
    exact ⟨recsR old new (ix + 1) rs, by simp [recsR]⟩
  | x :: rs, ix, i + 1, r, e => by
    obtain ⟨rest, h⟩ := recsR_split old new rs (ix + 1) i r (by simpa using e)
    refine ⟨rest, ?_⟩
    rw [List.take_succ_cons, recsR, recsR, h, List.append_assoc]
    have e1 : ix + 1 + (i : Int) = ix + ((i + 1 : Nat) : Int) := by push_cast; omega
    rw [e1]
section
variable {P : Program} {w : World} {K : PySem.W.Frag} {mg : Str → Option Value} {base : Heap} {f : Addr} {fd : FuncData}
abbrev s_RowReader_read_recipes : Stmt := inClass (top 52) 6
theorem sc_RowReader_read_recipes : FnScope ["self", "old", "new", "last", "row", "found", "index"] ["self"] (defScope s_RowReader_read_recipes) := ⟨rfl, rfl, rfl, by decide +kernel, rfl, by decide +kernel, by decide +kernel⟩
def sp_read_recipes (C : Addr) : Sp := fun vs H Q _ => ∃ (p : Addr) (L : List Row) (rs : List Rec), vs = [.ref p] ∧ ReaderO H C p rs.length 0 L ∧ RowSeg L 0 (pieceP rs 0) ∧ GoodRecs rs ∧ (∀ row ∈ L, ShowRow row) ∧
  ∀ v H', Kp [p] H H' → ReaderO H' C p rs.length (pieceP rs 0).length L → TD H' v (recsD rs) → Q v H'
theorem ok_read_recipes (F : At K mg "read_recipes" "RowReader.read_recipes" s_RowReader_read_recipes ["self"] f fd) (T : Txt K mg) (R : ReaderT K) (m_expect : GMG P w K mg base 2 (cD K) "expect" ["self", "row"] (sp_expect (cD K)))
    (m_read_recipe : GMG P w K mg base 6 (cD K) "read_recipe" ["self", "index", "old", "new"] (sp_read_recipe (cD K))) (g_store_addresses : GF P w K mg base 1 "store_addresses" ["size", "copy"] sp_store_addresses)
    (g_counting_rows : GF P w K mg base 1 "counting_rows" ["old", "address"] sp_counting_rows) : FnG P w K mg base 7 f fd ["self"] (sp_read_recipes (cD K)) := by
  refine fnG F.fn sc_RowReader_read_recipes (fun vs H Q E h => ?_) (fun cdv A outer s H vs Q E hg0 hr h => ?_)
  · obtain ⟨p, L, rs, rfl, _⟩ := h
    rfl
  · obtain ⟨p, L, rs, rfl, R0, hseg, hg, hsL, q⟩ := h
    refine ⟨_, (pss_cons (ps_asg (pe_slice (r := rSlT K) sl_tup (pe_gf g_store_addresses (hr.mono (by decide)) rfl (pa_cons (pe_fldK (K := K) (pv 0) rfl) (pa_cons pe_int pa_nil))) po_none (po_some pe_int)) (pg_tup rfl (pgs_cons (pg_name (i := 1) sc_RowReader_read_recipes.nd rfl (Or.inr rfl)) (pgs_cons (pg_name (i := 2) sc_RowReader_read_recipes.nd rfl (Or.inr rfl)) pgs_nil))))
      (pss_cons (ps_set (i := 3) sc_RowReader_read_recipes.nd rfl (Or.inl rfl) (pe_op op_add (pe_op op_add (pv 2) (pe_fldK (K := K) (pv 0) rfl)) pe_int))
      (pss_cons (ps_for PassesOwn.never rfl (pi_list (pe_lst (pa_cons (pe_tup (pa_cons pe_str (pa_cons pe_int (pa_cons (pe_gi T.c_INVALID rfl) pa_nil)))) (pa_cons (pe_tup (pa_cons pe_str (pa_cons pe_int (pa_cons (pv 3) pa_nil)))) (StX.pa_star (pe_gf g_counting_rows (hr.mono (by decide)) rfl (pa_cons (pv 1) (pa_cons (pv 2) pa_nil))) pa_nil))))) (pg_name (i := 4) sc_RowReader_read_recipes.nd rfl (Or.inl rfl)) (pss_one (ps_expr (pe_gmG m_expect hg0 (hr.mono (by decide)) (pv 0) (pa_cons (pv 4) pa_nil)))))
      (pss_cons (ps_set (i := 5) sc_RowReader_read_recipes.nd rfl (Or.inl rfl) (pe_callTy call_tuple_of rfl T.f_tuple (by decide +kernel) (pa_cons (pe_lc (own := [("index", 6)]) rfl sc_RowReader_read_recipes.nd (pi_range1 rfl T.f_range (pa_cons (pe_fldK (K := K) (pv 0) rfl) pa_nil)) (blkOk_by (own := [("index", 6)]) (N := ["self", "old", "new", "last", "row", "found", "index"]) (sc := defScope (inClass (top 52) 6)) (by decide +kernel)) (fun _ _ _ _ _ => (pg_name (i := 6) sc_RowReader_read_recipes.nd rfl (Or.inl rfl))) (fun _ _ _ _ _ => pts_nil) (fun _ _ _ _ _ => (pe_gmG m_read_recipe hg0 (hr.mono (by decide)) (pv 0) (pa_cons (pv 6) (pa_cons (pv 1) (pa_cons (pv 2) pa_nil)))))) pa_nil)))
      (pss_cons (ps_for PassesOwn.never rfl (pi_list (pe_gf g_counting_rows (hr.mono (by decide)) rfl (pa_cons (pv 1) (pa_cons (pv 3) pa_nil)))) (pg_name (i := 4) sc_RowReader_read_recipes.nd rfl (Or.inl rfl)) (pss_one (ps_expr (pe_gmG m_expect hg0 (hr.mono (by decide)) (pv 0) (pa_cons (pv 4) pa_nil)))))
      (pss_one (ps_ret (pv 5)))))))), ?_⟩
    obtain ⟨dx, v0, ep, tv⟩ := R0.ex
    have hn := hg.1
    have hwc : ∀ {H1 : Hp} {σ : L2.St} {i : Nat}, σ[0]? = some (some (.ref p)) → ReaderO H1 (cD K) p rs.length i L → EvD (tFld K (tVar 0) "word_count") σ H1 (.int rs.length) := fun e r => by
      obtain ⟨dx, v, ep, _⟩ := r.ex
      exact ed_v (ev_fld (ev_var e) ep R.cl R.na_word_count rfl) (.int _)
    generalize hO : oldA rs.length 0 = old
    generalize hW : newA rs.length 0 = new
    have hold : old = 0 := by rw [← hO]; simp [oldA]
    have hpie : pieceP rs 0 = ([ro "set" [24, 999999], ro "store" [24, new + rs.length + 1]] ++ countR old new) ++ (recsR old new 0 rs ++ countR old (new + rs.length + 1)) := by
      unfold pieceP
      simp only [hO, hW, List.append_assoc]
    rw [hpie] at hseg q
    obtain ⟨hs1, hs2⟩ := hseg.app
    obtain ⟨hs2, hs3⟩ := hs2.app
    have l1 : ([ro "set" [24, 999999], ro "store" [24, new + rs.length + 1]] ++ countR old new).length = 8 := rfl
    rw [Nat.zero_add, l1] at hs2 hs3
    refine st_tup (ed_slT (ed_store_addresses (hwc rfl R0) ed_i (by omega) (by omega)) eo_none (eo_some ed_i) (fun z => absurd z.2 (show ¬ (HT.sIx 4 4 (some 2) = 4) by decide))) rfl fun xs H1 k1 t1 => ?_
    have ex : xs = [V.int old, .int new] := by rw [← hO, ← hW]; exact TDs.ofInts (ns := [_, _]) t1
    subst ex
    refine ⟨_, _, rfl, ⟨_, _, rfl, rfl, ?_⟩⟩
    have R1 := R0.kp0 k1
    try dsimp only
    refine sd_set (ed_add (ed_add (ed_var rfl (.int new)) (hwc rfl R1)) ed_i) fun v2 H2 k2 t2 => ?_
    cases t2
    have R2 := R1.kp0 k2
    try dsimp only
    obtain ⟨dx2, vv2, ep2, _⟩ := R2.ex
    refine st_forF (ei_listD (ds := ([ro "set" [24, 999999], ro "store" [24, new + rs.length + 1]] ++ countR old new).map rowD) (el_lst ?_ (Nat.le_of_ble_eq_true rfl))) fun H3 k3 => ?_
    · exact eds_cons (by walk_at "ed") (eds_cons (by walk_at "ed") (eds_starL (es := []) (el_counting_rows (ed_var rfl (.int _)) (ed_var rfl (.int _))) eds_nil))
    have R3 := R2.kp0 k3
    refine ⟨fun i σ' H' => ∃ o, σ' = [some (.ref p), some (.int old), some (.int new), some (.int (new + rs.length + 1)), o, none, none] ∧ Kp [p] H3 H' ∧ ReaderO H' (cD K) p rs.length i L, ⟨_, rfl, Kp.refl _ _, R3⟩,
      fun i σ' H' ⟨_, _, kp, _⟩ => ⟨_, kp, on1 ep2⟩, fun i x σ' H4 H4' hi hP hy => ?_, fun σ' H4 hP => ?_⟩
    · obtain ⟨o, rfl, kp, Ri⟩ := hP
      obtain ⟨rfl, d, hd, td⟩ := hy
      rw [List.getElem?_map] at hd
      obtain ⟨row, hrow⟩ : ∃ row, ([ro "set" [24, 999999], ro "store" [24, new + rs.length + 1]] ++ countR old new)[i]? = some row := by
        cases e : ([ro "set" [24, 999999], ro "store" [24, new + rs.length + 1]] ++ countR old new)[i]? with
        | none => rw [e] at hd; cases hd
        | some row => exact ⟨row, rfl⟩
      rw [hrow] at hd
      cases hd
      have hLi := hs1 i row hrow
      rw [Nat.zero_add] at hLi
      exact st_expect (ev_var rfl) Ri (ed_var rfl td) hLi (hsL _ (List.mem_of_getElem? hLi)) fun H5 k5 R5 => ⟨_, rfl, kp.trans k5, R5⟩
    · obtain ⟨o, rfl, kp4, R4⟩ := hP
      have k04 : Kp [p] H H4 := ((k1.trans k2).trans k3).wid.trans kp4
      have R4' : ReaderO H4 (cD K) p rs.length 8 L := R4
      obtain ⟨dx4, vv4, ep4, _⟩ := R4'.ex
      try dsimp only
      -- the recipes
      refine st_asg (tcb1 ?_)
      refine el_lcS (S := [p]) (I := fun i H' => ReaderO H' (cD K) p rs.length (8 + (recsR old new 0 (rs.take i)).length) L) (Good := fun i d => ∃ r, rs[i]? = some r ∧ d = recD r) (ei_rangeF (n := rs.length) (hwc rfl R4') rfl (by omega)) yfn (by omega) (fun _ => rfl)
        (on1 ep4) (fun H5 k5 => R4'.kp0 k5) (fun i D H5 H6 hD Ri kD => Ri.kp kD (fun m => by rw [List.mem_singleton.mp m] at ep4; rw [hD] at ep4; cases ep4)) (fun i H5 hi k5 Ri Q' q' => ?_) fun D us ds H5 hD k5 e5 t5 hl5 hg5 R5 => ?_
      · have hrec : rs[i]? = some rs[i] := List.getElem?_eq_getElem hi
        obtain ⟨rest, hsp⟩ := recsR_split old new rs 0 i rs[i] hrec
        rw [hsp] at hs2
        have hs4 := hs2.app.2.app.1
        obtain ⟨dx5, vv5, ep5, _⟩ := Ri.ex
        have hln : (recsR old new 0 (rs.take (i + 1))).length = (recsR old new 0 (rs.take i)).length + (recR old new (0 + i) rs[i]).length := by
          rw [recsR_snoc old new rs 0 i rs[i] hrec, List.length_append]
        refine ⟨_, rfl, p, dx5, _, rfl, ep5, rfl, _, rfl, _, rfl, _, rfl, p, rs.length, _, old, new, _, L, rs[i], rfl, Ri, hs4, hg.2 _ (List.getElem_mem hi), ⟨by omega, by omega⟩, hsL, fun v H6 k6 R6 t6 => q' v (recD rs[i]) H6 k6 ?_ t6 ⟨_, hrec, rfl⟩⟩
        rw [hln, ← Nat.add_assoc]
        exact R6
      · have hds : ds = rs.map recD := List.ext_getElem? fun i => by
          rw [List.getElem?_map]
          rcases Nat.lt_or_ge i ds.length with h | h
          · obtain ⟨r, h1, h2⟩ := hg5 i _ (List.getElem?_eq_getElem h)
            rw [List.getElem?_eq_getElem h, h1, h2]
            rfl
          · rw [List.getElem?_eq_none h, List.getElem?_eq_none (by omega)]
            rfl
        subst hds
        rw [List.take_length] at R5
        refine ⟨D, us, rfl, .inl ⟨SqL.of e5, fun l6 hl6 => ?_⟩⟩
        have k6 : Kp [] H5 (upd H5 l6 (.tup us)) := Kp.new hl6
        have tf : TD (upd H5 l6 (.tup us)) (.ref l6) (recsD rs) := .tup upd_same (t5.kp k6)
        have R6 := R5.kp0 k6
        have k06 : Kp [p] H (upd H5 l6 (.tup us)) := (k04.trans k5).trans k6.wid
        try dsimp only
        show tSeq _ _ _ _ (upd H5 l6 (.tup us))
        generalize upd H5 l6 (.tup us) = H6 at k6 tf R6 k06 ⊢
        obtain ⟨dx6, vv6, ep6, _⟩ := R6.ex
        try dsimp only
        refine st_forF (ei_listD (ds := (countR old (new + rs.length + 1)).map rowD) (el_counting_rows (ed_var rfl (.int _)) (ed_var rfl (.int _)))) fun H7 k7 => ?_
        refine ⟨fun i σ' H' => ∃ o, σ' = [some (.ref p), some (.int old), some (.int new), some (.int (new + rs.length + 1)), o, some (.ref l6), none] ∧ Kp [p] H7 H' ∧ ReaderO H' (cD K) p rs.length (8 + (recsR old new 0 rs).length + i) L, ⟨_, rfl, Kp.refl _ _, R6.kp0 k7⟩,
          fun i σ' H' ⟨_, _, kp, _⟩ => ⟨_, kp, on1 ep6⟩, fun i x σ' H8 H8' hi hP hy => ?_, fun σ' H8 hP => ?_⟩
        · obtain ⟨o, rfl, kp, Ri⟩ := hP
          obtain ⟨rfl, d, hd, td⟩ := hy
          rw [List.getElem?_map] at hd
          obtain ⟨row, hrow⟩ : ∃ row, (countR old (new + rs.length + 1))[i]? = some row := by
            cases e : (countR old (new + rs.length + 1))[i]? with
            | none => rw [e] at hd; cases hd
            | some row => exact ⟨row, rfl⟩
          rw [hrow] at hd
          cases hd
          have hLi := hs3 i row hrow
          exact st_expect (ev_var rfl) Ri (ed_var rfl td) hLi (hsL _ (List.mem_of_getElem? hLi)) fun H9 k9 R9 => ⟨_, rfl, kp.trans k9, by rw [← Nat.add_assoc]; exact R9⟩
        · obtain ⟨o, rfl, kp, R8⟩ := hP
          try dsimp only
          refine sd_ret (ed_var rfl ((tf.kp k7).kp kp)) fun v9 H9 k9 t9 => ?_
          refine q v9 H9 (((k06.trans k7.wid).trans kp).trans k9.wid) ?_ t9
          have e1 : (([ro "set" [24, 999999], ro "store" [24, new + rs.length + 1]] ++ countR old new) ++ (recsR old new 0 rs ++ countR old (new + rs.length + 1))).length = 8 + (recsR old new 0 rs).length + ((countR old (new + rs.length + 1)).map rowD).length := by
            rw [List.length_append, l1, List.length_append, List.length_map, Nat.add_assoc]
          rw [e1]
          exact R8.kp0 k9
end
end Sr
/-! Ring.read. -/
namespace Sr
open PySem PySem.Spec PyProof.Rows L2
section
variable {P : Program} {w : World} {K : PySem.W.Frag} {mg : Str → Option Value} {base : Heap} {f : Addr} {fd : FuncData}
theorem cut_from {α : Type} (xs : List α) (i : Nat) (h : i ≤ xs.length) : cutD xs (some (i : Int)) none = xs.drop i := by
  unfold cutD
  rw [HT.sIx_nat, HT.sIx_none, Nat.min_eq_left h]
  exact List.take_of_length_le (by rw [List.length_drop]; exact Nat.le_refl _)
abbrev s_Ring_read : Stmt := inClass (top 51) 18
theorem sc_Ring_read : FnScope ["cls", "rows", "faults", "copies", "size", "reader", "ring", "row"] ["cls", "rows", "faults", "copies", "size"] (defScope s_Ring_read) := ⟨rfl, rfl, rfl, by decide +kernel, rfl, by decide +kernel, by decide +kernel⟩
def sp_Ring_read (C : Addr) : Sp := fun vs H Q _ => ∃ (v : V) (rs : List Rec) (e : Int) (k : Nat), vs = [.ref C, v, .int e, .int k, .int rs.length] ∧ TD H v (.tuple ((ringR rs e k).map rowD)) ∧ RingG rs e k ∧ ∀ p H', Kp [] H H' → H p = none → RingO H' C p rs e k → Q (.ref p) H'
theorem ok_Ring_read (F : Fun K "read" "Ring.read" s_Ring_read f fd) (T : Txt K mg) (R : RingT K) (RD : ReaderT K) (m_expect : GMG P w K mg base 2 (cD K) "expect" ["self", "row"] (sp_expect (cD K)))
    (m_read_recipes : GMG P w K mg base 7 (cD K) "read_recipes" ["self"] (sp_read_recipes (cD K))) (k_RowReader : GMk P w K mg base 1 "RowReader" (cD K) ["self", "rows", "size"] (sp_RowReader_init (cD K)))
    (k_Ring : GMkK P w K mg base 7 1 "Ring" (cR K) ["self", "recipes", "faults", "copies"] ["faults", "copies"] (sp_Ring_init (cR K))) (p_rows : GP P w K mg base 1 (cR K) "rows" (sp_Ring_rows (cR K))) :
    FnG P w K mg base 9 f fd ["cls", "rows", "faults", "copies", "size"] (sp_Ring_read (cR K)) := by
  refine fnG F sc_Ring_read (fun vs H Q E h => ?_) (fun cdv A outer s H vs Q E hg0 hr h => ?_)
  · obtain ⟨v, rs, e, k, rfl, _⟩ := h
    rfl
  · obtain ⟨v, rs, e, k, rfl, tv, hg, q⟩ := h
    refine ⟨_, (pss_cons (ps_if (pt_not (pt_val (pe_callB call_isi rfl T.f_isinstance (by decide +kernel) (pa_cons (pv 1) (pa_cons (pe_bltn (v := .ty "tuple") (u := .type "tuple") rfl T.f_tuple (by decide +kernel) rfl) pa_nil))))) (pss_one ps_never) pss_nil)
      (pss_cons (ps_set (i := 5) sc_Ring_read.nd rfl (Or.inl rfl) (pe_mk k_RowReader (hr.mono (by decide)) rfl (pa_cons (pv 1) (pa_cons (pv 4) pa_nil))))
      (pss_cons (ps_set (i := 6) sc_Ring_read.nd rfl (Or.inl rfl) (pe_mkV k_Ring (hr.mono (by decide)) (pv 0) (pa_cons (pe_gm0G m_read_recipes hg0 (hr.mono (by decide)) (pv 5)) pa_nil) (pk_cons (pv 2) (pk_cons (pv 3) pk_nil))))
      (pss_cons (ps_for PassesOwn.never rfl (pi_tup (pe_slice (r := rSlT K) sl_tup (pe_gp p_rows (hr.mono (by decide)) (pv 6)) (po_some (pe_fldK (K := K) (pv 5) rfl)) po_none)) (pg_name (i := 7) sc_Ring_read.nd rfl (Or.inl rfl)) (pss_one (ps_expr (pe_gmG m_expect hg0 (hr.mono (by decide)) (pv 5) (pa_cons (pv 7) pa_nil)))))
      (pss_cons (ps_if (pt_cmpR op_lt (pe_fldK (K := K) (pv 5) rfl) (pe_callB (r := rLen K) call_len_seq rfl T.f_len PySem.boot_len (pa_cons (pv 1) pa_nil)) (nomark _)) (pss_one ps_never) pss_nil)
      (pss_one (ps_ret (pv 6)))))))), ?_⟩
    have hsh : ∀ row ∈ ringR rs e k, ShowRow row := fun row m => (ringR_exec hg row m).show (by
      unfold wordsN
      have h1 := hg.rs.1
      have h2 := hg.k
      have h3 : 4 * ((rs.length : Int) + 2) * k ≤ 24 * 5 := Int.mul_le_mul (by omega) (by omega) (by omega) (by omega)
      omega)
    refine st_ifF (et_not (b := true) (et_val (ed_isi (ed_var rfl tv) kit_tt))) fun H1 k1 => ?_
    try delta tNext
    try dsimp only
    have tv1 := tv.kp k1
    refine st_asg ?_
    refine ⟨_, rfl, _, rfl, fun rd dr hrd hdr hne => ?_⟩
    obtain ⟨k2, e2⟩ := newIns (C := cD K) hrd hdr hne
    have tv2 := tv1.kp k2
    refine ⟨rd, dr, v, rs.length, ringR rs e k, rfl, e2, tv2, fun H3 k3 R3 => ⟨rfl, ?_⟩⟩
    have k13 : Kp [] H1 H3 := k2.thenM k3 fun b m => .inr (by rw [List.mem_singleton.mp m]; exact hrd)
    have k03 := k1.trans k13
    have frd : H rd = none := k1.free hrd
    clear k2 k3 tv2 e2
    try dsimp only
    refine st_asg ?_
    obtain ⟨dx3, vv3, ep3, _⟩ := R3.ex
    have hPlen := lenP_b hg.rs
    have hseg : RowSeg (ringR rs e k) 0 (pieceP rs 0) := fun j row h => by
      rw [Nat.zero_add]
      obtain ⟨k', hk'⟩ : ∃ k', k = k' + 1 := ⟨k - 1, by have := hg.k; omega⟩
      subst hk'
      unfold ringR
      rw [List.range_succ_eq_map, List.flatMap_cons, List.append_assoc, List.getElem?_append_left (by exact (List.getElem?_eq_some_iff.mp h).1)]
      exact h
    refine ⟨_, rfl, rfl, _, rfl, rd, dx3, _, rfl, ep3, rfl, rd, ringR rs e k, rs, rfl, R3, hseg, hg.rs, hsh, fun vr H4 k4 R4 t4 => ?_⟩
    refine ⟨_, rfl, _, rfl, rfl, rfl, fun p dp hp hdp hnp => ?_⟩
    obtain ⟨k5, e5⟩ := newIns (C := cR K) hp hdp hnp
    refine ⟨p, dp, vr, e, k, rs, rfl, e5, t4.kp k5, hg, fun H6 k6 R6 => ⟨rfl, ?_⟩⟩
    have k46 : Kp [] H4 H6 := k5.thenM k6 fun b m => .inr (by rw [List.mem_singleton.mp m]; exact hp)
    have R46 := R4.kp0 k46
    obtain ⟨dx6, vv6, ep6, _⟩ := R46.ex
    obtain ⟨dx4, vv4, ep4, _⟩ := R4.ex
    have npr : p ≠ rd := fun z => by rw [z, ep4] at hp; cases hp
    have fp : H p = none := k03.free (k4.free hp)
    have k36 : Kp [rd] H3 H6 := k4.trans k46.wid
    have tv6 := (tv.kp k03).kp k36
    clear k5 k6 e5
    try dsimp only
    have hL : (pieceP rs 0).length ≤ (ringR rs e k).length := by
      rcases Nat.lt_or_ge (ringR rs e k).length (pieceP rs 0).length with h | h
      · have h2 := hseg (ringR rs e k).length _ (List.getElem?_eq_getElem h)
        rw [Nat.zero_add, List.getElem?_eq_none (Nat.le_refl _)] at h2
        cases h2
      · exact h
    generalize hI : (pieceP rs 0).length = i0 at R46 hL ep6
    have hi0 : 14 ≤ i0 := by unfold lenP at hPlen; omega
    refine st_forF (ei_tupD (ed_slT (ed_Ring_rows (ev_var rfl) R6) (eo_some (ed_v (ev_fld (ev_var rfl) ep6 RD.cl RD.na_index rfl) (.int _))) eo_none (fun z => by
      have z1 := z.1
      rw [HT.sIx_nat, List.length_map] at z1
      omega))) fun H7 k7 => ?_
    rw [cut_from _ _ (by rw [List.length_map]; exact hL), ← List.map_drop]
    refine ⟨fun j σ' H' => ∃ o, σ' = [some (.ref (cR K)), some v, some (.int e), some (.int k), some (.int rs.length), some (.ref rd), some (.ref p), o] ∧ Kp [rd] H7 H' ∧ ReaderO H' (cD K) rd rs.length (i0 + j) (ringR rs e k), ⟨_, rfl, Kp.refl _ _, R46.kp0 k7⟩,
      fun j σ' H' ⟨_, _, kp, _⟩ => ⟨_, kp, on1 ep6⟩, fun j x σ' H8 H8' hj hP hy => ?_, fun σ' H8 hP => ?_⟩
    · obtain ⟨o, rfl, kp, Rj⟩ := hP
      obtain ⟨rfl, d, hd, td⟩ := hy
      rw [List.getElem?_map, List.getElem?_drop] at hd
      obtain ⟨row, hrow⟩ : ∃ row, (ringR rs e k)[i0 + j]? = some row := by
        cases h : (ringR rs e k)[i0 + j]? with
        | none => rw [h] at hd; cases hd
        | some row => exact ⟨row, rfl⟩
      rw [hrow] at hd
      cases hd
      exact st_expect (ev_var rfl) Rj (ed_var rfl td) hrow (hsh _ (List.mem_of_getElem? hrow)) fun H9 k9 R9 => ⟨_, rfl, kp.trans k9, by rw [← Nat.add_assoc]; exact R9⟩
    · obtain ⟨o, rfl, kp, R8⟩ := hP
      rw [List.length_map, List.length_drop] at R8
      obtain ⟨dx8, vv8, ep8, _⟩ := R8.ex
      have tv8 := (tv6.kp k7).kp kp
      have ei : i0 + ((ringR rs e k).length - i0) = (ringR rs e k).length := by omega
      rw [ei] at ep8
      try dsimp only
      refine st_ifF (et_F (et_lt (ed_v (ev_fld (ev_var rfl) ep8 RD.cl RD.na_index rfl) (.int _)) (ed_lenT (ed_var rfl tv8))) (decide_eq_false (by rw [List.length_map]; omega))) fun H9 k9 => ?_
      try delta tNext
      try dsimp only
      refine ⟨_, rfl, ?_⟩
      have k69 : Kp [rd] H6 H9 := (k7.wid.trans kp).trans k9.wid
      refine q p H9 (k03.thenM (k36.trans k69) fun b m => .inr (by rw [List.mem_singleton.mp m]; exact frd)) fp (R6.kp k69 fun m => npr (List.mem_singleton.mp m))
end
end Sr
/-! Rule: xs[a:c] = ys, another list. -/
namespace Sr
open PySem PySem.Spec PyProof.Rows L2
def gSlc (to : TE) (tl th : TO) : TG := fun v σ H Q => to σ H fun o H1 => tl σ H1 fun lo H2 => th σ H2 fun hi H3 => ∃ (l b : Addr) (xs ys : List V) (a c : Int), o = .ref l ∧ v = .ref b ∧ lo = some a ∧ hi = some c ∧ H3 l = some (.lst xs) ∧ H3 b = some (.lst ys) ∧ l ≠ b ∧ 0 ≤ a ∧ a ≤ c ∧ c ≤ xs.length ∧
  xs.length + ys.length ≤ sizeLine ∧ Q σ (upd H3 l (.lst (xs.take a.toNat ++ ys ++ xs.drop c.toNat)))
theorem pg_slc {X : Cx} {o : Expr} {lo hi : Option Expr} {pos p2 : Pos} {to : TE} {tl th : TO} (ho : PE X o to) (hl : PO X lo tl) (hh : PO X hi th)
    (ha : ∀ v, assign (.Subscript o (.Slice lo hi none p2) pos) X.env v = (do
      let ov ← holding [v] (eval o X.env)
      let iv ← holding [v, ov] (eval (.Slice lo hi none p2) X.env)
      standAt pos
      holding [v, ov, iv] (setItem ov iv v)
      release [iv, v, ov] []) := by intro _; rfl) : PG X (.Subscript o (.Slice lo hi none p2) pos) (gSlc to tl th) := by
  refine ⟨fun pins s σ H v u Q I r h => ?_⟩
  rw [ha]
  refine wpAny_bind (wpAny_holding (thn (ho.run pins s σ H _ I h) fun ov s1 ⟨x, H1, I1, r1, q1⟩ => wpAny_bind (wpAny_holding ?_)))
  refine wpAny_Slice (thn (hl.run pins s1 σ H1 _ I1 q1) fun vl s2 ⟨a0, H2, I2, pl, q2⟩ => thn (hh.run pins s2 σ H2 _ I2 q2) fun vu s3 ⟨c0, H3, I3, pu, q3⟩ => ?_)
  rw [evalPart_none]
  refine wpAny_pure (wpAny_bind (wpAny_standAt (wpAny_bind (wpAny_holding ?_))))
  obtain ⟨l, b, xs, ys, a, c, rfl, rfl, rfl, rfl, e1, e2, ne, h0, h1, h2, hz, q⟩ := q3
  cases r
  cases r1
  cases pl
  cases pu
  refine set_slice (s := { s3 with heap := s3.heap.push { cls := .type "slice", data := .fields #[_, _, .none] } }) (I3.kept (t' := s3.toks) fun b ob q => Heap.get?_push_of_some _ q) e1 e2 ne (Heap.IsSliceOf.new ..) ⟨_, rfl⟩ ⟨_, rfl⟩ h0 h1 h2 hz fun s' I' => ?_
  exact wpAny_release ⟨σ, _, I', q⟩
end Sr
/-! A machine: its data, what a row does. -/
namespace Sr
open PySem PySem.Spec PyProof.Rows L2
structure MS where
  mem : List Int
  reg : List Int
  row : Int
  done : Int
  cnt : Int
  aff : List Int
def gI (xs : List Int) (i : Int) : Int := (xs[i.toNat]?).getD 0
def setI (xs : List Int) (i v : Int) : List Int := xs.set i.toNat v
def sliceI (xs : List Int) (s c : Int) : List Int := (xs.drop s.toNat).take c.toNat
def spliceI (xs : List Int) (s o c : Int) : List Int := xs.take o.toNat ++ sliceI xs s c ++ xs.drop (o + c).toNat
def wOk (x : Int) : Prop := 0 ≤ x ∧ x ≤ 999999
def exec (ms : MS) (r : Row) : MS :=
  if r.1 = "load" then { ms with reg := setI ms.reg (r.2.getD 0 0) (gI ms.mem (r.2.getD 1 0)) }
  else if r.1 = "set" then { ms with reg := setI ms.reg (r.2.getD 0 0) (r.2.getD 1 0) }
  else if r.1 = "alike" then { ms with reg := setI ms.reg (r.2.getD 0 0) (if sliceI ms.mem (r.2.getD 1 0) (r.2.getD 3 0) = sliceI ms.mem (r.2.getD 2 0) (r.2.getD 3 0) then 1 else 0) }
  else if r.1 = "store" then { ms with mem := setI ms.mem (r.2.getD 1 0) (gI ms.reg (r.2.getD 0 0)) }
  else if r.1 = "move" then (if gI ms.reg (r.2.getD 0 0) = 0 then ms else { ms with mem := spliceI ms.mem (r.2.getD 1 0) (r.2.getD 2 0) (r.2.getD 3 0) })
  else if r.1 = "choose" then { ms with reg := setI ms.reg (r.2.getD 0 0) (gI ms.reg (if gI ms.reg (r.2.getD 1 0) = 0 then r.2.getD 3 0 else r.2.getD 2 0)) }
  else { ms with reg := setI ms.reg (r.2.getD 0 0) (opv r.1 (gI ms.reg (r.2.getD 1 0)) (gI ms.reg (r.2.getD 2 0))) }
structure MSok (N L : Int) (ms : MS) : Prop where
  ml : (ms.mem.length : Int) = N
  rl : ms.reg.length = 32
  mw : ∀ x ∈ ms.mem, wOk x
  rw_ : ∀ x ∈ ms.reg, wOk x
  row : 0 ≤ ms.row ∧ ms.row < L
  nb : N ≤ 1000
theorem gI_ok {xs : List Int} {i : Int} (h : ∀ x ∈ xs, wOk x) : wOk (gI xs i) := by
  unfold gI
  cases e : xs[i.toNat]? with
  | none => exact ⟨by decide, by decide⟩
  | some v => exact h v (List.mem_of_getElem? e)
theorem setI_ok {xs : List Int} {i v : Int} (h : ∀ x ∈ xs, wOk x) (hv : wOk v) : ∀ x ∈ setI xs i v, wOk x := fun x m => by
  rcases List.mem_or_eq_of_mem_set m with m | rfl
  · exact h x m
  · exact hv
theorem setI_len (xs : List Int) (i v : Int) : (setI xs i v).length = xs.length := List.length_set
theorem gI_at {xs : List Int} {i : Int} (h0 : 0 ≤ i) (h1 : i < xs.length) : xs[i.toNat]? = some (gI xs i) := by
  unfold gI
  rw [List.getElem?_eq_getElem (by omega)]
  rfl
theorem at_int {α : Type} {f : Int → α} {xs : List Int} {i : Int} (h0 : 0 ≤ i) (h1 : i < xs.length) : L2.atI (xs.map f) i = some (f (gI xs i)) := by
  have h := L2.atI_nat (xs := xs.map f) (j := i.toNat) (v := f (gI xs i)) (by rw [List.getElem?_map, gI_at h0 h1]; rfl)
  rwa [Int.toNat_of_nonneg h0] at h
theorem ixN_int {n : Nat} {i : Int} (h0 : 0 ≤ i) (h1 : i < n) : ixN n i = some i.toNat := by
  unfold ixN
  rw [if_pos h0, if_pos h1]
theorem opv_ok {z : Str} {a b : Int} (ha : wOk a) (hb : wOk b) : wOk (opv z a b) := by
  unfold wOk at *
  unfold opv
  repeat' split
  all_goals first
    | omega
    | skip
  · have hb0 : 0 < b := by omega
    have h1 : 0 ≤ a / b := Int.ediv_nonneg ha.1 (by omega)
    have h2 : a / b ≤ a := Int.ediv_le_self b ha.1
    omega
  · have hb0 : 0 < b := by omega
    have h1 := Int.emod_nonneg a (show b ≠ 0 by omega)
    have h2 := Int.emod_lt_of_pos a hb0
    omega
theorem sliceI_len {xs : List Int} {s c : Int} (h0 : 0 ≤ s) (h1 : 0 ≤ c) (h2 : s + c ≤ xs.length) : (sliceI xs s c).length = c.toNat := by
  unfold sliceI
  rw [List.length_take, List.length_drop]
  omega
theorem spliceI_len {xs : List Int} {s o c : Int} (h0 : 0 ≤ s) (h1 : 0 ≤ c) (h2 : s + c ≤ xs.length) (h3 : 0 ≤ o) (h4 : o + c ≤ xs.length) : (spliceI xs s o c).length = xs.length := by
  unfold spliceI
  rw [List.length_append, List.length_append, sliceI_len h0 h1 h2, List.length_take, List.length_drop]
  omega
theorem spliceI_ok {xs : List Int} {s o c : Int} (h : ∀ x ∈ xs, wOk x) : ∀ x ∈ spliceI xs s o c, wOk x := fun x m => by
  rcases List.mem_append.mp m with m | m
  · rcases List.mem_append.mp m with m | m
    · exact h x (List.mem_of_mem_take m)
    · exact h x (List.mem_of_mem_drop (List.mem_of_mem_take m))
  · exact h x (List.mem_of_mem_drop m)
/-- only the memory and the registers change -/
theorem exec_same (ms : MS) (r : Row) : (exec ms r).row = ms.row ∧ (exec ms r).done = ms.done ∧ (exec ms r).cnt = ms.cnt ∧ (exec ms r).aff = ms.aff := by
  unfold exec
  repeat' split
  all_goals exact ⟨rfl, rfl, rfl, rfl⟩
theorem exec_ok {N L : Int} {ms : MS} {r : Row} (h : MSok N L ms) (hr : ExecRow N r) : MSok N L (exec ms r) := by
  have h1 := h.ml
  have h2 := h.rl
  have key : ∀ ms' : MS, ms'.row = ms.row → (ms'.mem.length = ms.mem.length ∧ ∀ x ∈ ms'.mem, wOk x) → (ms'.reg.length = ms.reg.length ∧ ∀ x ∈ ms'.reg, wOk x) → MSok N L ms' := fun ms' e1 e2 e3 => ⟨by rw [e2.1]; exact h1, by rw [e3.1]; exact h2, e2.2, e3.2, by rw [e1]; exact h.row, h.nb⟩
  have hs : ∀ i v : Int, wOk v → MSok N L { ms with reg := setI ms.reg i v } := fun i v hv => key _ rfl ⟨rfl, h.mw⟩ ⟨setI_len _ _ _, setI_ok h.rw_ hv⟩
  unfold exec
  split
  · exact hs _ _ (gI_ok h.mw)
  · split
    · rename_i n1 c
      refine hs _ _ ?_
      rcases hr with ⟨t, a, rfl, _⟩ | ⟨t, a, rfl, _, hw⟩ | ⟨t, s, o, c', rfl, _⟩ | ⟨t, a, rfl, _⟩ | ⟨t, s, o, c', rfl, _⟩ | ⟨t, a, b, c', rfl, _⟩ | ⟨z, t, a, b, rfl, hz, _⟩
      · exact absurd rfl n1
      · exact hw
      · exact absurd c (show ¬ ("alike" : Str) = "set" by decide +kernel)
      · exact absurd c (show ¬ ("store" : Str) = "set" by decide +kernel)
      · exact absurd c (show ¬ ("move" : Str) = "set" by decide +kernel)
      · exact absurd c (show ¬ ("choose" : Str) = "set" by decide +kernel)
      · exact absurd c ((show ∀ x ∈ opL, ¬ x = "set" by decide +kernel) z hz)
    · split
      · refine hs _ _ ?_
        split
        · exact ⟨by decide, by decide⟩
        · exact ⟨by decide, by decide⟩
      · split
        · exact key _ rfl ⟨setI_len _ _ _, setI_ok h.mw (gI_ok h.rw_)⟩ ⟨rfl, h.rw_⟩
        · split
          · rename_i c
            split
            · exact h
            · refine key _ rfl ⟨?_, spliceI_ok h.mw⟩ ⟨rfl, h.rw_⟩
              rcases hr with ⟨t, a, rfl, _⟩ | ⟨t, a, rfl, _, hw⟩ | ⟨t, s, o, c', rfl, _⟩ | ⟨t, a, rfl, _⟩ | ⟨t, s, o, c', rfl, hh⟩ | ⟨t, a, b, c', rfl, _⟩ | ⟨z, t, a, b, rfl, hz, _⟩
              · exact absurd c (show ¬ ("load" : Str) = "move" by decide +kernel)
              · exact absurd c (show ¬ ("set" : Str) = "move" by decide +kernel)
              · exact absurd c (show ¬ ("alike" : Str) = "move" by decide +kernel)
              · exact absurd c (show ¬ ("store" : Str) = "move" by decide +kernel)
              · show (spliceI ms.mem s o c').length = ms.mem.length
                exact spliceI_len hh.2.1 hh.2.2.2.1 (by omega) hh.2.2.1 (by omega)
              · exact absurd c (show ¬ ("choose" : Str) = "move" by decide +kernel)
              · exact absurd c ((show ∀ x ∈ opL, ¬ x = "move" by decide +kernel) z hz)
          · split
            · exact hs _ _ (gI_ok h.rw_)
            · exact hs _ _ (opv_ok (gI_ok h.rw_) (gI_ok h.rw_))
/-! ### the object -/
def mfs (ring : Addr) (w : V) (M G A : Addr) (ms : MS) (tl : Fs) : Fs :=
  ("ring_executed", .ref ring) :: ("rows_listed", w) :: ("memory_words", .ref M) :: ("register_words", .ref G) :: ("next_row", .int ms.row) :: ("rows_done", .int ms.done) :: ("faults_done", .int ms.cnt) :: ("copies_affected", .ref A) :: tl
def affK (aff : List Int) : List (Key × V) := aff.map fun c => (Sum.inl c, V.bl true)
/-- a Recorder has one field more -/
def TlOk (tl : Fs) : Prop := tl = [] ∨ ∃ v, tl = ([("faults_noted", v)] : Fs)
theorem TlOk.len {tl : Fs} (h : TlOk tl) : tl.length ≤ 1 := by
  rcases h with rfl | ⟨v, rfl⟩ <;> simp
structure MachO (K : PySem.W.Frag) (H : Hp) (C p ring M G A : Addr) (rs : List Rec) (e : Int) (k : Nat) (ms : MS) (tl : Fs) : Prop where
  ex : ∃ dx w, H p = some (.ins C dx (mfs ring w M G A ms tl)) ∧ TD H w (.tuple ((ringR rs e k).map rowD))
  hM : H M = some (.lst (ms.mem.map V.int))
  hG : H G = some (.lst (ms.reg.map V.int))
  hA : H A = some (.dK (affK ms.aff))
  ne : M ≠ G
  hR : RingO H (cR K) ring rs e k
  tl1 : TlOk tl
section
variable {K : PySem.W.Frag} {H H' : Hp} {C p ring M G A : Addr} {rs : List Rec} {e : Int} {k : Nat} {ms : MS} {tl : Fs} {S : List Addr}
theorem MachO.kp (m : MachO K H C p ring M G A rs e k ms tl) (kp : Kp S H H') (h : ∀ b ∈ S, b ≠ p ∧ b ≠ M ∧ b ≠ G ∧ b ≠ A ∧ b ≠ ring) : MachO K H' C p ring M G A rs e k ms tl := by
  obtain ⟨dx, w, ep, tw⟩ := m.ex
  exact ⟨⟨dx, w, kp.oth p _ (fun z => (h p z).1 rfl) ep, tw.kp kp⟩, kp.oth M _ (fun z => (h M z).2.1 rfl) m.hM, kp.oth G _ (fun z => (h G z).2.2.1 rfl) m.hG, kp.oth A _ (fun z => (h A z).2.2.2.1 rfl) m.hA, m.ne, m.hR.kp kp fun z => (h ring z).2.2.2.2 rfl, m.tl1⟩
theorem MachO.kp0 (m : MachO K H C p ring M G A rs e k ms tl) (kp : Kp [] H H') : MachO K H' C p ring M G A rs e k ms tl := m.kp kp fun _ z => nomatch z
theorem MachO.nes (m : MachO K H C p ring M G A rs e k ms tl) : p ≠ M ∧ p ≠ G ∧ p ≠ A ∧ M ≠ A ∧ G ≠ A ∧ ring ≠ M ∧ ring ≠ G ∧ ring ≠ A ∧ ring ≠ p := by
  obtain ⟨dx, w, ep, _⟩ := m.ex
  obtain ⟨dr, v, u, w', er, _⟩ := m.hR.ex
  refine ⟨ne_of ep m.hM (fun z => HO.noConfusion z), ne_of ep m.hG (fun z => HO.noConfusion z), ne_of ep m.hA (fun z => HO.noConfusion z), ne_of m.hM m.hA (fun z => HO.noConfusion z), ne_of m.hG m.hA (fun z => HO.noConfusion z), ne_of er m.hM (fun z => HO.noConfusion z), ne_of er m.hG (fun z => HO.noConfusion z), ne_of er m.hA (fun z => HO.noConfusion z), ne_of er ep (fun z => ?_)⟩
  injection z with _ _ z
  injection z with z _
  injection z with z _
  exact absurd z (by decide +kernel)
theorem MachO.setG (m : MachO K H C p ring M G A rs e k ms tl) (r : List Int) : MachO K (upd H G (.lst (r.map V.int))) C p ring M G A rs e k { ms with reg := r } tl := by
  obtain ⟨n1, n2, n3, n4, n5, n6, n7, n8, n9⟩ := m.nes
  obtain ⟨dx, w, ep, tw⟩ := m.ex
  have kG : Kp [G] H (upd H G (.lst (r.map V.int))) := Kp.put (List.mem_singleton.mpr rfl) m.hG fun xs z => HO.noConfusion z
  exact ⟨⟨dx, w, by rw [upd_ne n2]; exact ep, tw.kp kG⟩, by rw [upd_ne m.ne]; exact m.hM, upd_same, by rw [upd_ne (Ne.symm n5)]; exact m.hA, m.ne, m.hR.kp kG fun z => n7 (List.mem_singleton.mp z), m.tl1⟩
theorem MachO.setM (m : MachO K H C p ring M G A rs e k ms tl) (r : List Int) : MachO K (upd H M (.lst (r.map V.int))) C p ring M G A rs e k { ms with mem := r } tl := by
  obtain ⟨n1, n2, n3, n4, n5, n6, n7, n8, n9⟩ := m.nes
  obtain ⟨dx, w, ep, tw⟩ := m.ex
  have kM : Kp [M] H (upd H M (.lst (r.map V.int))) := Kp.put (List.mem_singleton.mpr rfl) m.hM fun xs z => HO.noConfusion z
  exact ⟨⟨dx, w, by rw [upd_ne n1]; exact ep, tw.kp kM⟩, upd_same, by rw [upd_ne (Ne.symm m.ne)]; exact m.hG, by rw [upd_ne (Ne.symm n4)]; exact m.hA, m.ne, m.hR.kp kM fun z => n6 (List.mem_singleton.mp z), m.tl1⟩
theorem MachO.kpG (m : MachO K H C p ring M G A rs e k ms tl) (r : List V) : Kp [G] H (upd H G (.lst r)) := Kp.put (List.mem_singleton.mpr rfl) m.hG fun xs z => HO.noConfusion z
theorem MachO.kpM (m : MachO K H C p ring M G A rs e k ms tl) (r : List V) : Kp [M] H (upd H M (.lst r)) := Kp.put (List.mem_singleton.mpr rfl) m.hM fun xs z => HO.noConfusion z
end
end Sr
/-! Machine.execute. -/
namespace Sr
open PySem PySem.Spec PyProof.Rows L2
structure MachT (K : PySem.W.Frag) (C : Addr) : Prop where
  cl : Cls K C
  na_ring_executed : NoAttr K C "ring_executed"
  na_rows_listed : NoAttr K C "rows_listed"
  na_memory_words : NoAttr K C "memory_words"
  na_register_words : NoAttr K C "register_words"
  na_next_row : NoAttr K C "next_row"
  na_rows_done : NoAttr K C "rows_done"
  na_faults_done : NoAttr K C "faults_done"
  na_copies_affected : NoAttr K C "copies_affected"
section
variable {K : PySem.W.Frag} {σ : L2.St} {H : Hp} {ta tb te to ti : TE} {l : Addr} {xs : List Int} {i v x y c s : Int} {D : Ends} {ds es : List PyData} {b : Bool} {d : PyData}
theorem st_par {i j : Nat} {v w : V} (ha : EvV ta σ H v) (hb : EvV tb σ H w) (n : ∀ H1, Kp [] H H1 → D.nx ((σ.set i (some v)).set j (some w)) H1) : tPar i j (tCons ta (tCons tb tNil)) D σ H :=
  ha H (Kp.refl _ _) _ fun H1 k1 => hb H1 k1 _ fun H2 k2 => ⟨v, w, rfl, n H2 (k1.trans k2)⟩
theorem ed_gI (ha : EvV ta σ H (.ref l)) (hl : H l = some (.lst (xs.map V.int))) (hb : EvD tb σ H (.int i)) (h0 : 0 ≤ i) (h1 : i < xs.length) : EvD (tOp (rIxL K) ta tb) σ H (.int (gI xs i)) := ed_ixL ha hl (.ints xs) hb (at_int h0 h1)
theorem sg_set (hv : EvD te σ H (.int v)) (ho : EvV to σ H (.ref l)) (hi : EvD ti σ H (.int i)) (hl : H l = some (.lst (xs.map V.int))) (h0 : 0 ≤ i) (h1 : i < xs.length) (n : ∀ H1, Kp [] H H1 → D.nx σ (upd H1 l (.lst ((setI xs i v).map V.int)))) : tAsg te (gSub to ti rSetL) D σ H :=
  hv H (Kp.refl _ _) _ fun u H1 k1 t1 => by
    cases t1
    exact ho H1 k1 _ fun H2 k2 => ev_i hi H2 (k1.trans k2) _ fun H3 k3 => ⟨l, xs.map V.int, i, i.toNat, rfl, rfl, ((k1.trans k2).trans k3).get hl, ixN_int h0 (by rw [List.length_map]; exact h1), by
      have e : (xs.map V.int).set i.toNat (.int v) = (setI xs i v).map V.int := (List.map_set (f := V.int)).symm
      rw [e]
      exact n H3 ((k1.trans k2).trans k3)⟩
theorem cutI {α : Type} {f : Int → α} (h0 : 0 ≤ s) (h1 : 0 ≤ c) (h2 : s + c ≤ xs.length) : cutD (xs.map f) (some s) (some (s + c)) = (sliceI xs s c).map f := by
  obtain ⟨s', rfl⟩ := Int.eq_ofNat_of_zero_le h0
  obtain ⟨c', rfl⟩ := Int.eq_ofNat_of_zero_le h1
  unfold cutD sliceI
  have e : ((s' : Int) + (c' : Int)) = ((s' + c' : Nat) : Int) := by omega
  rw [e, HT.sIx_nat, HT.sIx_nat, List.length_map, Nat.min_eq_left (by omega), Nat.min_eq_left (by omega), Nat.add_sub_cancel_left, List.map_take, List.map_drop]
  simp
theorem el_sliceI {tl th : TO} (ha : EvV ta σ H (.ref l)) (hl : H l = some (.lst (xs.map V.int))) (h1 : EvO tl σ H (some s)) (h2 : EvO th σ H (some (s + c))) (h3 : 0 ≤ s) (h4 : 0 ≤ c) (h5 : s + c ≤ xs.length) : EvL (tSl (rSlL K) ta tl th) σ H ((sliceI xs s c).map PyData.int) := by
  rw [← cutI h3 h4 h5]
  exact el_slL (el0_v ha hl (.ints xs)) h1 h2
theorem ed_eqL0 (ha : EvL0 ta σ H ds) (hb : EvL0 tb σ H es) {n : Nat} (sd : Shp n (.list ds)) (se : Shp n (.list es)) (hn : n ≤ 64) : EvD (tOp (rEqD K) ta tb) σ H (.bool (PyData.eqv (.list ds) (.list es))) := fun H1 k Q q =>
  ha H1 k _ fun l vs H2 k2 e2 t2 => hb H2 (k.trans k2) _ fun m us H3 k3 e3 t3 => ⟨.list ds, .list es, .lst (SqL.of (k3.get e2)) (t2.kp k3).dp, .lst (SqL.of e3) t3.dp, sd.ok hn, se.ok hn, q _ H3 (k2.trans k3) (.bl _)⟩
theorem eqv_ints : ∀ xs ys : List Int, PyData.eqvAll (xs.map PyData.int) (ys.map PyData.int) = decide (xs = ys)
  | [], [] => rfl
  | [], y :: ys => by simp [PyData.eqvAll]
  | x :: xs, [] => by simp [PyData.eqvAll]
  | x :: xs, y :: ys => by
    rw [List.map_cons, List.map_cons, PyData.eqvAll, eqv_ints xs ys, PyData.eqv]
    by_cases e : x = y
    · subst e; simp
    · simp [e]
theorem ed_intB (h : EvD ta σ H (.bool b)) : EvD (tCB (fun xs H Q => (∃ i, xs = [.int i] ∧ Q (.int i) H) ∨ ∃ k, xs = [.bl k] ∧ Q (.int (if k then 1 else 0)) H) (tCons ta tNil)) σ H (.int (if b then 1 else 0)) := fun H1 k Q q =>
  ev_b h H1 k _ fun H2 k2 => .inr ⟨b, rfl, q _ H2 k2 (.int _)⟩
theorem Shp.intL (xs : List Int) : Shp 1 (.list (xs.map PyData.int)) := Shp.lst (Shp.ints xs)
end
theorem ed_operator_value {σ : L2.St} {H : Hp} {ta tb tc : TE} {E : XK} {o : Str} {a b : Int} (h1 : EvD ta σ H (.str o)) (h2 : EvD tb σ H (.int a)) (h3 : EvD tc σ H (.int b)) (ho : o ∈ opL) (ha : wOk a) (hb : wOk b) : EvD (tCall sp_operator_value [] E (tCons ta (tCons tb (tCons tc tNil)))) σ H (.int (opv o a b)) := fun H1 k Q q =>
  ev_s h1 H1 k _ fun H2 k2 => ev_i h2 H2 (k.trans k2) _ fun H3 k3 => ev_i h3 H3 ((k.trans k2).trans k3) _ fun H4 k4 => ⟨o, a, b, ho, ha, hb, rfl, q _ H4 ((k2.trans k3).trans k4) (.int _)⟩
section
variable {P : Program} {w : World} {K : PySem.W.Frag} {mg : Str → Option Value} {base : Heap} {f : Addr} {fd : FuncData}
abbrev s_Machine_execute : Stmt := inClass (top 73) 11
theorem sc_Machine_execute : FnScope ["self", "row", "word", "target", "registers", "memory", "start", "other", "count"] ["self", "row"] (defScope s_Machine_execute) := ⟨rfl, rfl, rfl, by decide +kernel, rfl, by decide +kernel, by decide +kernel⟩
def sp_execute (K : PySem.W.Frag) (C : Addr) : Sp := fun vs H Q _ => ∃ (p ring M G A : Addr) (rs : List Rec) (e : Int) (k : Nat) (ms : MS) (tl : Fs) (v : V) (r : Row) (N L : Int), vs = [.ref p, v] ∧ MachO K H C p ring M G A rs e k ms tl ∧ TD H v (rowD r) ∧ ExecRow N r ∧ MSok N L ms ∧
  ∀ H', Kp [M, G] H H' → MachO K H' C p ring M G A rs e k (exec ms r) tl → Q .non H'
theorem ok_execute {C : Addr} (F : At K mg "execute" "Machine.execute" s_Machine_execute ["self", "row"] f fd) (T : Txt K mg) (R : MachT K C) (g_operator_value : GF P w K mg base 1 "operator_value" ["operator", "one", "other"] sp_operator_value) : FnOk P w K mg base CX0 2 f fd ["self", "row"] (sp_execute K C) := by
  refine F.fn.ok sc_Machine_execute (fun vs H Q E h => ?_) (fun cdv A0 outer s H vs Q E hr h => ?_)
  · obtain ⟨p, ring, M, G, A, rs, e, k, ms, tl, v, r, N, L, rfl, _⟩ := h
    rfl
  · obtain ⟨p, ring, M, G, A, rs, e, k, ms, tl, v, r, N, L, rfl, m, tv, hx, hk, q⟩ := h
    refine ⟨_, (pss_cons (ps_par (i := 2) (j := 3) rfl sc_Machine_execute.nd rfl rfl (by decide) rfl rfl (pa_cons (pe_ix (r := rIxT K) ix_tup (pv 1) pe_int (fun _ _ => rfl)) (pa_cons (pe_ix (r := rIxT K) ix_tup (pv 1) pe_int (fun _ _ => rfl)) pa_nil)) rfl)
      (pss_cons (ps_par (i := 4) (j := 5) rfl sc_Machine_execute.nd rfl rfl (by decide) rfl rfl (pa_cons (pe_fldK (K := K) (pv 0) rfl) (pa_cons (pe_fldK (K := K) (pv 0) rfl) pa_nil)) rfl)
      (pss_one (ps_if (pt_cmpR op_eq (pv 2) pe_str (nomark _)) (pss_one (ps_asg (pe_ix (r := rIxL K) ix_list (pv 5) (pe_ix (r := rIxT K) ix_tup (pv 1) pe_int (fun _ _ => rfl)) (fun _ _ => rfl)) (pg_sub (pv 4) (pv 3) set_list))) (pss_one (ps_if (pt_cmpR op_eq (pv 2) pe_str (nomark _)) (pss_one (ps_asg (pe_ix (r := rIxT K) ix_tup (pv 1) pe_int (fun _ _ => rfl)) (pg_sub (pv 4) (pv 3) set_list))) (pss_one (ps_if (pt_cmpR op_eq (pv 2) pe_str (nomark _)) (pss_cons (ps_asg (pe_slice (r := rSlT K) sl_tup (pv 1) (po_some pe_int) po_none) (pg_tup rfl (pgs_cons (pg_name (i := 6) sc_Machine_execute.nd rfl (Or.inl rfl)) (pgs_cons (pg_name (i := 7) sc_Machine_execute.nd rfl (Or.inl rfl)) (pgs_cons (pg_name (i := 8) sc_Machine_execute.nd rfl (Or.inl rfl)) pgs_nil)))))
      (pss_one (ps_asg (pe_callTy call_int1 rfl T.f_int (by decide +kernel) (pa_cons (pe_cmpR (op_eqD hr.units) (pe_slice (r := rSlL K) sl_list (pv 5) (po_some (pv 6)) (po_some (pe_op op_add (pv 6) (pv 8)))) (pe_slice (r := rSlL K) sl_list (pv 5) (po_some (pv 7)) (po_some (pe_op op_add (pv 7) (pv 8)))) (nomark _)) pa_nil)) (pg_sub (pv 4) (pv 3) set_list)))) (pss_one (ps_if (pt_cmpR op_eq (pv 2) pe_str (nomark _)) (pss_one (ps_asg (pe_ix (r := rIxL K) ix_list (pv 4) (pv 3) (fun _ _ => rfl)) (pg_sub (pv 5) (pe_ix (r := rIxT K) ix_tup (pv 1) pe_int (fun _ _ => rfl)) set_list))) (pss_one (ps_if (pt_cmpR op_eq (pv 2) pe_str (nomark _)) (pss_one (ps_if (pt_cmpR op_ne (pe_ix (r := rIxL K) ix_list (pv 4) (pv 3) (fun _ _ => rfl)) pe_int (nomark _)) (pss_cons (ps_asg (pe_slice (r := rSlT K) sl_tup (pv 1) (po_some pe_int) po_none) (pg_tup rfl (pgs_cons (pg_name (i := 6) sc_Machine_execute.nd rfl (Or.inl rfl)) (pgs_cons (pg_name (i := 7) sc_Machine_execute.nd rfl (Or.inl rfl)) (pgs_cons (pg_name (i := 8) sc_Machine_execute.nd rfl (Or.inl rfl)) pgs_nil)))))
      (pss_one (ps_asg (pe_slice (r := rSlL K) sl_list (pv 5) (po_some (pv 6)) (po_some (pe_op op_add (pv 6) (pv 8)))) (pg_slc (pv 5) (po_some (pv 7)) (po_some (pe_op op_add (pv 7) (pv 8))))))) pss_nil)) (pss_one (ps_if (pt_cmpR op_eq (pv 2) pe_str (nomark _)) (pss_one (ps_asg (pe_ix (r := rIxL K) ix_list (pv 4) (pe_ifExp (pt_cmpR op_ne (pe_ix (r := rIxL K) ix_list (pv 4) (pe_ix (r := rIxT K) ix_tup (pv 1) pe_int (fun _ _ => rfl)) (fun _ _ => rfl)) pe_int (nomark _)) (pe_ix (r := rIxT K) ix_tup (pv 1) pe_int (fun _ _ => rfl)) (pe_ix (r := rIxT K) ix_tup (pv 1) pe_int (fun _ _ => rfl))) (fun _ _ => rfl)) (pg_sub (pv 4) (pv 3) set_list))) (pss_one (ps_asg (pe_gf g_operator_value (hr.mono (by decide)) rfl (pa_cons (pv 2) (pa_cons (pe_ix (r := rIxL K) ix_list (pv 4) (pe_ix (r := rIxT K) ix_tup (pv 1) pe_int (fun _ _ => rfl)) (fun _ _ => rfl)) (pa_cons (pe_ix (r := rIxL K) ix_list (pv 4) (pe_ix (r := rIxT K) ix_tup (pv 1) pe_int (fun _ _ => rfl)) (fun _ _ => rfl)) pa_nil)))) (pg_sub (pv 4) (pv 3) set_list))))))))))))))))), ?_⟩
    obtain ⟨dx, wv, ep, tw⟩ := m.ex
    have hml := hk.ml
    have hrl : (ms.reg.length : Int) = 32 := by have := hk.rl; omega
    obtain ⟨z, t, ns, rfl⟩ : ∃ z t ns, r = ro z (t :: ns) := by
      rcases hx with ⟨t, a, rfl, _⟩ | ⟨t, a, rfl, _⟩ | ⟨t, s, o, c, rfl, _⟩ | ⟨t, a, rfl, _⟩ | ⟨t, s, o, c, rfl, _⟩ | ⟨t, a, b, c, rfl, _⟩ | ⟨z, t, a, b, rfl, _⟩ <;> exact ⟨_, _, _, rfl⟩
    have tv' : TD H v (.tuple (.str z :: .int t :: ns.map PyData.int)) := tv
    refine st_par (ev_s (ed_ixT (ed_var rfl tv') ed_i at0)) (ev_i (ed_ixT (ed_var rfl tv') ed_i at1)) fun H2 k12 => ?_
    try dsimp only
    refine st_par (ev_fld (ev_var rfl) (k12.get ep) R.cl R.na_register_words rfl) (ev_fld (ev_var rfl) (k12.get ep) R.cl R.na_memory_words rfl) fun H4 k4 => ?_
    have k04 := k12.trans k4
    have m4 := m.kp0 k04
    have tv4 := tv'.kp k04
    clear k4 k12
    -- behind a store into the registers, into the memory
    have endG : ∀ (H5 : Hp) (r' : List Int), Kp [] H4 H5 → exec ms (ro z (t :: ns)) = { ms with reg := r' } → Q .non (upd H5 G (.lst (r'.map V.int))) := fun H5 r' k5 e1 => by
      have m5 := (m4.kp0 k5).setG r'
      rw [← e1] at m5
      exact q _ ((k04.trans k5).wid.trans ((m4.kp0 k5).kpG _ |>.mono fun b hb => by rw [List.mem_singleton.mp hb]; simp)) m5
    have endM : ∀ (H5 : Hp) (r' : List Int), Kp [] H4 H5 → exec ms (ro z (t :: ns)) = { ms with mem := r' } → Q .non (upd H5 M (.lst (r'.map V.int))) := fun H5 r' k5 e1 => by
      have m5 := (m4.kp0 k5).setM r'
      rw [← e1] at m5
      exact q _ ((k04.trans k5).wid.trans ((m4.kp0 k5).kpM _ |>.mono fun b hb => by rw [List.mem_singleton.mp hb]; simp)) m5
    try dsimp only
    unfold ExecRow Rg at hx
    rcases hx with ⟨t', a, er, ht, ha⟩ | ⟨t', a, er, ht, ha⟩ | ⟨t', s', o, c, er, ht, ha⟩ | ⟨t', a, er, ht, ha⟩ | ⟨t', s', o, c, er, ht, ha⟩ | ⟨t', a, b, c, er, ht, ha⟩ | ⟨z', t', a, b, er, hz, ht, ha⟩ <;> cases er
    · -- load
      refine st_ifT (et_T (et_eqS (ed_var rfl (.str _)) ed_s) rfl) fun H5 k5 => ?_
      have m5 := m4.kp0 k5
      exact sg_set (ed_gI (ev_var rfl) m5.hM (ed_ixT (ed_var rfl (tv4.kp k5)) ed_i at2) ha.1 (by omega)) (ev_var rfl) (ed_var rfl (.int _)) m5.hG ht.1 (by omega) fun H6 k6 => endG H6 _ (k5.trans k6) rfl
    · -- set
      refine st_ifF (et_F (et_eqS (ed_var rfl (.str _)) ed_s) (decide_eq_false (by decide +kernel))) fun H5 k5 => ?_
      refine st_ifT (et_T (et_eqS (ed_var rfl (.str _)) ed_s) rfl) fun H6 k6 => ?_
      have m6 := m4.kp0 (k5.trans k6)
      exact sg_set (ed_ixT (ed_var rfl (tv4.kp (k5.trans k6))) ed_i at2) (ev_var rfl) (ed_var rfl (.int _)) m6.hG ht.1 (by omega) fun H7 k7 => endG H7 _ ((k5.trans k6).trans k7) rfl
    · -- alike
      refine st_ifF (et_F (et_eqS (ed_var rfl (.str _)) ed_s) (decide_eq_false (by decide +kernel))) fun H5 k5 => ?_
      refine st_ifF (et_F (et_eqS (ed_var rfl (.str _)) ed_s) (decide_eq_false (by decide +kernel))) fun H6 k6 => ?_
      refine st_ifT (et_T (et_eqS (ed_var rfl (.str _)) ed_s) rfl) fun H7 k7 => ?_
      have k47 := (k5.trans k6).trans k7
      refine st_tup (ed_slT (ed_var rfl (tv4.kp k47)) (eo_some ed_i) eo_none (fun z => absurd z.1 (show ¬ (HT.sIx 5 0 (some 2) = 0) by decide))) rfl fun xs H8 k8 t8 => ?_
      have ex : xs = [V.int s', .int o, .int c] := TDs.ofInts (ns := [_, _, _]) t8
      subst ex
      have m8 := m4.kp0 (k47.trans k8)
      refine ⟨_, _, rfl, ⟨_, _, rfl, ⟨_, _, rfl, rfl, ?_⟩⟩⟩
      try dsimp only
      have h1 := ed_intB (ed_eqL0 (K := K) (EvL.l0 (el_sliceI (K := K) (ev_var (i := 5) (σ := ((((((((L2.start ["self", "row", "word", "target", "registers", "memory", "start", "other", "count"] [.ref p, v]).set 2 (some (.str "alike"))).set 3 (some (.int t))).set 4 (some (.ref G))).set 5 (some (.ref M))).set 6 (some (.int s'))).set 7 (some (.int o))).set 8 (some (.int c)))) rfl) m8.hM (eo_some (ed_var (i := 6) rfl (.int s'))) (eo_some (ed_add (ed_var (i := 6) rfl (.int s')) (ed_var (i := 8) rfl (.int c)))) ha.1 ha.2.2.1 (by omega)))
        (EvL.l0 (el_sliceI (K := K) (ev_var (i := 5) rfl) m8.hM (eo_some (ed_var (i := 7) rfl (.int o))) (eo_some (ed_add (ed_var (i := 7) rfl (.int o)) (ed_var (i := 8) rfl (.int c)))) ha.2.1 ha.2.2.1 (by omega))) (Shp.intL _) (Shp.intL _) (Nat.le_of_ble_eq_true rfl))
      refine sg_set h1 (ev_var rfl) (ed_var rfl (.int _)) m8.hG ht.1 (by omega) fun H9 k9 => endG H9 _ ((k47.trans k8).trans k9) ?_
      have e1 : PyData.eqv (.list ((sliceI ms.mem s' c).map PyData.int)) (.list ((sliceI ms.mem o c).map PyData.int)) = decide (sliceI ms.mem s' c = sliceI ms.mem o c) := eqv_ints _ _
      rw [e1]
      show ({ ms with reg := setI ms.reg t (if sliceI ms.mem s' c = sliceI ms.mem o c then 1 else 0) } : MS) = _
      by_cases e2 : sliceI ms.mem s' c = sliceI ms.mem o c
      · rw [if_pos e2, decide_eq_true e2]; rfl
      · rw [if_neg e2, decide_eq_false e2]; rfl
    · -- store
      refine st_ifF (et_F (et_eqS (ed_var rfl (.str _)) ed_s) (decide_eq_false (by decide +kernel))) fun H5 k5 => ?_
      refine st_ifF (et_F (et_eqS (ed_var rfl (.str _)) ed_s) (decide_eq_false (by decide +kernel))) fun H6 k6 => ?_
      refine st_ifF (et_F (et_eqS (ed_var rfl (.str _)) ed_s) (decide_eq_false (by decide +kernel))) fun H7 k7 => ?_
      refine st_ifT (et_T (et_eqS (ed_var rfl (.str _)) ed_s) rfl) fun H8 k8 => ?_
      have k48 := ((k5.trans k6).trans k7).trans k8
      have m8 := m4.kp0 k48
      exact sg_set (ed_gI (ev_var rfl) m8.hG (ed_var rfl (.int _)) ht.1 (by omega)) (ev_var rfl) (ed_ixT (ed_var rfl (tv4.kp k48)) ed_i at2) m8.hM ha.1 (by omega) fun H9 k9 => endM H9 _ (k48.trans k9) rfl
    · -- move
      refine st_ifF (et_F (et_eqS (ed_var rfl (.str _)) ed_s) (decide_eq_false (by decide +kernel))) fun H5 k5 => ?_
      refine st_ifF (et_F (et_eqS (ed_var rfl (.str _)) ed_s) (decide_eq_false (by decide +kernel))) fun H6 k6 => ?_
      refine st_ifF (et_F (et_eqS (ed_var rfl (.str _)) ed_s) (decide_eq_false (by decide +kernel))) fun H7 k7 => ?_
      refine st_ifF (et_F (et_eqS (ed_var rfl (.str _)) ed_s) (decide_eq_false (by decide +kernel))) fun H8 k8 => ?_
      refine st_ifT (et_T (et_eqS (ed_var rfl (.str _)) ed_s) rfl) fun H9 k9 => ?_
      have k49 := (((k5.trans k6).trans k7).trans k8).trans k9
      have m9 := m4.kp0 k49
      refine st_if (et_neI (ed_gI (ev_var rfl) m9.hG (ed_var rfl (.int _)) ht.1 (by omega)) ed_i) (fun hc H10 k10 => ?_) fun hc H10 k10 => ?_
      · have e0 : ¬ gI ms.reg t = 0 := by simpa using hc
        refine st_tup (ed_slT (ed_var rfl (tv4.kp (k49.trans k10))) (eo_some ed_i) eo_none (fun z => absurd z.1 (show ¬ (HT.sIx 5 0 (some 2) = 0) by decide))) rfl fun xs H11 k11 t11 => ?_
        have ex : xs = [V.int s', .int o, .int c] := TDs.ofInts (ns := [_, _, _]) t11
        subst ex
        refine ⟨_, _, rfl, ⟨_, _, rfl, ⟨_, _, rfl, rfl, ?_⟩⟩⟩
        try dsimp only
        have k411 := (k49.trans k10).trans k11
        have m11 := m4.kp0 k411
        refine (el_sliceI (ev_var rfl) m11.hM (eo_some (ed_var rfl (.int s'))) (eo_some (ed_add (ed_var rfl (.int s')) (ed_var rfl (.int c)))) ha.1 ha.2.2.1 (by omega)) H11 (Kp.refl _ _) _ fun l vs H12 hl k12 e12 t12 => ?_
        have evs : vs = (sliceI ms.mem s' c).map V.int := TDs.ofInts t12
        subst evs
        have m12 := m11.kp0 k12
        have k412 := k411.trans k12
        have hlM : M ≠ l := fun z => by rw [← z, m11.hM] at hl; cases hl
        refine (ev_var rfl) H12 (Kp.refl _ _) _ fun H13 k13 => (eo_some (ed_var rfl (.int o))) H13 (Kp.refl _ _) _ fun H14 k14 => (eo_some (ed_add (ed_var rfl (.int o)) (ed_var rfl (.int c)))) H14 (Kp.refl _ _) _ fun H15 k15 => ?_
        have k1215 := (k13.trans k14).trans k15
        have m15 := m12.kp0 k1215
        have hsl := sliceI_len (xs := ms.mem) (s := s') (c := c) ha.1 ha.2.2.1 (by omega)
        refine ⟨M, l, _, _, o, o + c, rfl, rfl, rfl, rfl, m15.hM, k1215.get e12, hlM, ha.2.1, by omega, by rw [List.length_map]; omega, by rw [List.length_map, List.length_map, hsl]; exact le_line (by have := hk.nb; omega), ?_⟩
        have e3 : (ms.mem.map V.int).take o.toNat ++ (sliceI ms.mem s' c).map V.int ++ (ms.mem.map V.int).drop (o + c).toNat = (spliceI ms.mem s' o c).map V.int := by
          unfold spliceI
          rw [List.map_append, List.map_append, List.map_take, List.map_drop]
        rw [e3]
        refine endM H15 _ (k412.trans k1215) ?_
        show (if gI ms.reg t = 0 then ms else { ms with mem := spliceI ms.mem s' o c }) = _
        rw [if_neg e0]
      · have e0 : gI ms.reg t = 0 := by simpa using hc
        have e1 : exec ms (ro "move" [t, s', o, c]) = ms := by
          show (if gI ms.reg t = 0 then ms else { ms with mem := spliceI ms.mem s' o c }) = _
          rw [if_pos e0]
        have m10 := m9.kp0 k10
        rw [← e1] at m10
        exact q H10 ((k04.trans k49).trans k10).wid m10
    · -- choose
      refine st_ifF (et_F (et_eqS (ed_var rfl (.str _)) ed_s) (decide_eq_false (by decide +kernel))) fun H5 k5 => ?_
      refine st_ifF (et_F (et_eqS (ed_var rfl (.str _)) ed_s) (decide_eq_false (by decide +kernel))) fun H6 k6 => ?_
      refine st_ifF (et_F (et_eqS (ed_var rfl (.str _)) ed_s) (decide_eq_false (by decide +kernel))) fun H7 k7 => ?_
      refine st_ifF (et_F (et_eqS (ed_var rfl (.str _)) ed_s) (decide_eq_false (by decide +kernel))) fun H8 k8 => ?_
      refine st_ifF (et_F (et_eqS (ed_var rfl (.str _)) ed_s) (decide_eq_false (by decide +kernel))) fun H9 k9 => ?_
      refine st_ifT (et_T (et_eqS (ed_var rfl (.str _)) ed_s) rfl) fun H10 k10 => ?_
      have k410 := ((((k5.trans k6).trans k7).trans k8).trans k9).trans k10
      have m10 := m4.kp0 k410
      have t10 := tv4.kp k410
      have hi : EvD (tIf (tTest (tOp rNe (tOp (rIxL K) (tVar 4) (tOp (rIxT K) (tVar 1) (tC (.int 2)))) (tC (.int 0)))) (tOp (rIxT K) (tVar 1) (tC (.int 3))) (tOp (rIxT K) (tVar 1) (tC (.int 4)))) (((((L2.start ["self", "row", "word", "target", "registers", "memory", "start", "other", "count"] [.ref p, v]).set 2 (some (.str "choose"))).set 3 (some (.int t))).set 4 (some (.ref G))).set 5 (some (.ref M))) H10 (.int (if gI ms.reg a = 0 then c else b)) := by
        refine ed_if (et_neI (ed_gI (ev_var rfl) m10.hG (ed_ixT (ed_var rfl t10) ed_i at2) ha.1.1 (by omega)) ed_i) (fun h => ?_) fun h => ?_
        · rw [if_neg (show ¬ gI ms.reg a = 0 by simpa using h)]
          exact ed_ixT (ed_var rfl t10) ed_i at3
        · rw [if_pos (show gI ms.reg a = 0 by simpa using h)]
          exact ed_ixT (ed_var rfl t10) ed_i at4
      refine sg_set (ed_gI (ev_var rfl) m10.hG hi (by split <;> omega) (by split <;> omega)) (ev_var rfl) (ed_var rfl (.int _)) m10.hG ht.1 (by omega) fun H11 k11 => endG H11 _ (k410.trans k11) rfl
    · -- an operator
      have hn : ∀ x ∈ opL, ¬ x = "load" ∧ ¬ x = "set" ∧ ¬ x = "alike" ∧ ¬ x = "store" ∧ ¬ x = "move" ∧ ¬ x = "choose" := by decide +kernel
      obtain ⟨n1, n2, n3, n4, n5, n6⟩ := hn z hz
      refine st_ifF (et_F (et_eqS (ed_var rfl (.str _)) ed_s) (decide_eq_false n1)) fun H5 k5 => ?_
      refine st_ifF (et_F (et_eqS (ed_var rfl (.str _)) ed_s) (decide_eq_false n2)) fun H6 k6 => ?_
      refine st_ifF (et_F (et_eqS (ed_var rfl (.str _)) ed_s) (decide_eq_false n3)) fun H7 k7 => ?_
      refine st_ifF (et_F (et_eqS (ed_var rfl (.str _)) ed_s) (decide_eq_false n4)) fun H8 k8 => ?_
      refine st_ifF (et_F (et_eqS (ed_var rfl (.str _)) ed_s) (decide_eq_false n5)) fun H9 k9 => ?_
      refine st_ifF (et_F (et_eqS (ed_var rfl (.str _)) ed_s) (decide_eq_false n6)) fun H10 k10 => ?_
      have k410 := ((((k5.trans k6).trans k7).trans k8).trans k9).trans k10
      have m10 := m4.kp0 k410
      have t10 := tv4.kp k410
      refine sg_set (ed_operator_value (ed_var rfl (.str z)) (ed_gI (ev_var rfl) m10.hG (ed_ixT (ed_var rfl t10) ed_i at2) ha.1.1 (by omega)) (ed_gI (ev_var rfl) m10.hG (ed_ixT (ed_var rfl t10) ed_i at3) ha.2.1 (by omega)) hz (gI_ok hk.rw_) (gI_ok hk.rw_)) (ev_var rfl) (ed_var rfl (.int _)) m10.hG ht.1 (by omega) fun H11 k11 => endG H11 _ (k410.trans k11) ?_
      show exec ms (ro z [t, a, b]) = _
      unfold exec
      rw [if_neg n1, if_neg n2, if_neg n3, if_neg n4, if_neg n5, if_neg n6]
      rfl
end
end Sr
/-! Machine: the next row, many rows. -/
namespace Sr
open PySem PySem.Spec PyProof.Rows L2
def stepM (R : List Row) (ms : MS) : MS :=
  { exec ms ((R[ms.row.toNat]?).getD (ro "set" [24, 0])) with done := ms.done + 1, row := if ms.row + 1 = R.length then 0 else ms.row + 1 }
def runM (R : List Row) : Nat → MS → MS
  | 0, ms => ms
  | n + 1, ms => stepM R (runM R n ms)
theorem stepM_ok {N : Int} {R : List Row} {ms : MS} (h : MSok N R.length ms) (hR : ∀ r ∈ R, ExecRow N r) : MSok N R.length (stepM R ms) := by
  have hrow := h.row
  have hr : ExecRow N ((R[ms.row.toNat]?).getD (ro "set" [24, 0])) := by
    rw [List.getElem?_eq_getElem (by omega)]
    exact hR _ (List.getElem_mem _)
  have h2 := exec_ok h hr
  refine ⟨h2.ml, h2.rl, h2.mw, h2.rw_, ?_, h2.nb⟩
  show 0 ≤ (if ms.row + 1 = R.length then 0 else ms.row + 1) ∧ (if ms.row + 1 = R.length then 0 else ms.row + 1) < (R.length : Int)
  split <;> omega
theorem runM_ok {N : Int} {R : List Row} {ms : MS} (h : MSok N R.length ms) (hR : ∀ r ∈ R, ExecRow N r) : ∀ n, MSok N R.length (runM R n ms)
  | 0 => h
  | n + 1 => stepM_ok (runM_ok h hR n) hR
section
variable {K : PySem.W.Frag} {H H' : Hp} {C p ring M G A : Addr} {rs : List Rec} {e : Int} {k : Nat} {ms ms' : MS} {tl tl' : Fs}
/-- behind a store into a field -/
theorem MachO.atP (m : MachO K H C p ring M G A rs e k ms tl) (kp : Kp [p] H H') {dx : Addr} {w : V} (ep : H' p = some (.ins C dx (mfs ring w M G A ms' tl'))) (tw : TD H' w (.tuple ((ringR rs e k).map rowD))) (h1 : ms'.mem = ms.mem) (h2 : ms'.reg = ms.reg) (h3 : ms'.aff = ms.aff) (h4 : TlOk tl') :
    MachO K H' C p ring M G A rs e k ms' tl' := by
  obtain ⟨n1, n2, n3, n4, n5, n6, n7, n8, n9⟩ := m.nes
  have oth : ∀ {b : Addr} {o : HO}, p ≠ b → H b = some o → H' b = some o := fun h e => kp.oth _ _ (fun z => h (List.mem_singleton.mp z).symm) e
  exact ⟨⟨dx, w, ep, tw⟩, by rw [h1]; exact oth n1 m.hM, by rw [h2]; exact oth n2 m.hG, by rw [h3]; exact oth n3 m.hA, m.ne, m.hR.kp kp fun z => n9 (List.mem_singleton.mp z), h4⟩
theorem mfs_len {tl : Fs} {ring : Addr} {w : V} {M G A : Addr} {ms : MS} (h : TlOk tl) : Nat.ble (mfs ring w M G A ms tl).length 999 = true := Nat.ble_eq_true_of_le (by have := h.len; simp [mfs]; omega)
end
section
variable {P : Program} {w : World} {K : PySem.W.Frag} {mg : Str → Option Value} {base : Heap} {f : Addr} {fd : FuncData}
/-- a machine with all that is known of it -/
structure MachI (K : PySem.W.Frag) (H : Hp) (C p ring M G A : Addr) (rs : List Rec) (e : Int) (k : Nat) (ms : MS) (tl : Fs) : Prop where
  o : MachO K H C p ring M G A rs e k ms tl
  g : RingG rs e k
  ok : MSok (wordsN rs k) (ringR rs e k).length ms
theorem MachI.kp0 {H H' : Hp} {C p ring M G A : Addr} {rs : List Rec} {e : Int} {k : Nat} {ms : MS} {tl : Fs} (m : MachI K H C p ring M G A rs e k ms tl) (kp : Kp [] H H') : MachI K H' C p ring M G A rs e k ms tl := ⟨m.o.kp0 kp, m.g, m.ok⟩
theorem wordsN_b {rs : List Rec} {e : Int} {k : Nat} (g : RingG rs e k) : 0 < wordsN rs k ∧ wordsN rs k ≤ 1000 := by
  unfold wordsN
  have h1 := g.rs.1
  have h2 := g.k
  have h3 : 4 * ((rs.length : Int) + 2) * k ≤ 24 * 5 := Int.mul_le_mul (by omega) (by omega) (by omega) (by omega)
  have h4 : 0 < 4 * ((rs.length : Int) + 2) * k := Int.mul_pos (by omega) (by omega)
  omega
abbrev s_Machine_execute_next : Stmt := inClass (top 73) 10
theorem sc_Machine_execute_next : FnScope ["self"] ["self"] (defScope s_Machine_execute_next) := ⟨rfl, rfl, rfl, by decide +kernel, rfl, by decide +kernel, by decide +kernel⟩
def sp_execute_next (K : PySem.W.Frag) (C : Addr) : Sp := fun vs H Q _ => ∃ (p ring M G A : Addr) (rs : List Rec) (e : Int) (k : Nat) (ms : MS) (tl : Fs), vs = [.ref p] ∧ MachI K H C p ring M G A rs e k ms tl ∧
  ∀ H', Kp [p, M, G] H H' → MachI K H' C p ring M G A rs e k (stepM (ringR rs e k) ms) tl → Q .non H'
theorem ok_execute_next {C : Addr} (F : At K mg "execute_next" "Machine.execute_next" s_Machine_execute_next ["self"] f fd) (T : Txt K mg) (R : MachT K C) (m_execute : GM P w K mg base 2 C "execute" ["self", "row"] (sp_execute K C)) : FnOk P w K mg base CX0 3 f fd ["self"] (sp_execute_next K C) := by
  refine F.fn.ok sc_Machine_execute_next (fun vs H Q E h => ?_) (fun cdv A0 outer s H vs Q E hr h => ?_)
  · obtain ⟨p, ring, M, G, A, rs, e, k, ms, tl, rfl, _⟩ := h
    rfl
  · obtain ⟨p, ring, M, G, A, rs, e, k, ms, tl, rfl, m, q⟩ := h
    refine ⟨_, (pss_cons (ps_expr (pe_gm m_execute (hr.mono (by decide)) (pv 0) (pa_cons (pe_ix (r := rIxT K) ix_tup (pe_fldK (K := K) (pv 0) rfl) (pe_fldK (K := K) (pv 0) rfl) (fun _ _ => rfl)) pa_nil)))
      (pss_cons (ps_fldaug (pv 0) pe_int in_add)
      (pss_cons (ps_fldaug (pv 0) pe_int in_add)
      (pss_one (ps_if (pt_cmpR op_eq (pe_fldK (K := K) (pv 0) rfl) (pe_callB (r := rLen K) call_len_seq rfl T.f_len PySem.boot_len (pa_cons (pe_fldK (K := K) (pv 0) rfl) pa_nil)) (nomark _)) (pss_one (ps_fld (pv 0) pe_int rfl)) pss_nil))))), ?_⟩
    obtain ⟨dx, wv, ep, tw⟩ := m.o.ex
    obtain ⟨n1, n2, n3, n4, n5, n6, n7, n8, n9⟩ := m.o.nes
    have hrow := m.ok.row
    have hfl : ∀ (w : V) (ms : MS), Nat.ble (mfs ring w M G A ms tl).length 999 = true := fun w ms => mfs_len m.o.tl1
    have hgr : (ringR rs e k)[ms.row.toNat]? = some ((ringR rs e k)[ms.row.toNat]'(by omega)) := List.getElem?_eq_getElem (by omega)
    have e1 : (ringR rs e k)[ms.row.toNat]'(by omega) = ((ringR rs e k)[ms.row.toNat]?).getD (ro "set" [24, 0]) := by rw [hgr]; rfl
    have hat : L2.atI ((ringR rs e k).map rowD) ms.row = some (rowD (((ringR rs e k)[ms.row.toNat]?).getD (ro "set" [24, 0]))) := by
      have h := L2.atI_nat (xs := (ringR rs e k).map rowD) (j := ms.row.toNat) (v := rowD (((ringR rs e k)[ms.row.toNat]?).getD (ro "set" [24, 0]))) (by rw [List.getElem?_map, hgr]; rfl)
      rwa [Int.toNat_of_nonneg hrow.1] at h
    have hx : ExecRow (wordsN rs k) (((ringR rs e k)[ms.row.toNat]?).getD (ro "set" [24, 0])) := by
      rw [← e1]
      exact ringR_exec m.g _ (List.getElem_mem _)
    refine ⟨_, rfl, p, dx, _, rfl, ep, by rcases m.o.tl1 with rfl | ⟨v, rfl⟩ <;> rfl, ?_⟩
    refine (ed_ixT (K := K) (ed_v (ev_fld (ev_var rfl) ep R.cl R.na_rows_listed rfl) tw) (ed_v (ev_fld (ev_var rfl) ep R.cl R.na_next_row rfl) (.int _)) hat) H (Kp.refl _ _) _ fun v1 H1 k1 t1 => ?_
    refine ⟨p, ring, M, G, A, rs, e, k, ms, tl, v1, _, wordsN rs k, _, rfl, m.o.kp0 k1, t1, hx, m.ok, fun H2 k2 m2 => ?_⟩
    obtain ⟨s1, s2, s3, s4⟩ := exec_same ms (((ringR rs e k)[ms.row.toNat]?).getD (ro "set" [24, 0]))
    generalize hms : exec ms (((ringR rs e k)[ms.row.toNat]?).getD (ro "set" [24, 0])) = ms1 at m2 s1 s2 s3 s4
    obtain ⟨dx2, w2, ep2, tw2⟩ := m2.ex
    try dsimp only
    refine sf_add (x := ms1.done) (y := 1) ed_i (ev_var rfl) ep2 R.cl R.na_rows_done rfl (fun H Q q => ⟨_, _, rfl, rfl, q⟩) (fun H3 k3 e3 => ?_) (hfl w2 ms1)
    have m3 : MachO K H3 C p ring M G A rs e k { ms1 with done := ms1.done + 1 } tl := m2.atP k3 e3 (tw2.kp k3) rfl rfl rfl m2.tl1
    try dsimp only
    refine sf_add (x := ms1.row) (y := 1) ed_i (ev_var rfl) e3 R.cl R.na_next_row rfl (fun H Q q => ⟨_, _, rfl, rfl, q⟩) (fun H4 k4 e4 => ?_) (hfl w2 { ms1 with done := ms1.done + 1 })
    have m4 : MachO K H4 C p ring M G A rs e k { ms1 with done := ms1.done + 1, row := ms1.row + 1 } tl := m3.atP k4 e4 ((tw2.kp k3).kp k4) rfl rfl rfl m2.tl1
    have k04 : Kp [p, M, G] H H4 := ((k1.wid.trans (k2.mono fun b hb => List.mem_cons_of_mem _ hb)).trans (k3.mono fun b hb => by rw [List.mem_singleton.mp hb]; exact List.mem_cons_self)).trans (k4.mono fun b hb => by rw [List.mem_singleton.mp hb]; exact List.mem_cons_self)
    have hstep : stepM (ringR rs e k) ms = { ms1 with done := ms1.done + 1, row := if ms.row + 1 = (ringR rs e k).length then 0 else ms.row + 1 } := by
      unfold stepM
      rw [hms, s2]
    have okS := stepM_ok m.ok (ringR_exec m.g)
    try dsimp only
    have hlen : ∀ {H5 : Hp}, Kp [] H4 H5 → EvD (tCB (rLen K) (tCons (tFld K (tVar 0) "rows_listed") tNil)) (L2.start ["self"] [.ref p]) H5 (.int (ringR rs e k).length) := fun k5 => by
      have h := ed_lenT (K := K) (ed_v (ev_fld (ev_var (i := 0) (σ := L2.start ["self"] [.ref p]) rfl) (k5.get e4) R.cl R.na_rows_listed rfl) (((tw2.kp k3).kp k4).kp k5))
      rw [List.length_map] at h
      exact h
    refine st_if (et_eqI (ed_v (ev_fld (ev_var rfl) e4 R.cl R.na_next_row rfl) (.int _)) (hlen (Kp.refl _ _))) (fun hc H5 k5 => ?_) fun hc H5 k5 => ?_
    · have hc := of_decide_eq_true hc
      try dsimp only
      refine sf_v (v := .int 0) ev_c (ev_var rfl) (k5.get e4) R.cl R.na_next_row (fun H6 k6 e6 => ?_) (hfl w2 { ms1 with done := ms1.done + 1, row := ms1.row + 1 })
      refine q H6 ((k04.trans k5.wid).trans (k6.mono fun b hb => by rw [List.mem_singleton.mp hb]; exact List.mem_cons_self)) ⟨?_, m.g, okS⟩
      rw [hstep, if_pos (by omega)]
      exact (m4.kp0 k5).atP k6 e6 ((((tw2.kp k3).kp k4).kp k5).kp k6) rfl rfl rfl m2.tl1
    · have hc := of_decide_eq_false hc
      try delta tNext
      refine q H5 (k04.trans k5.wid) ⟨?_, m.g, okS⟩
      rw [hstep, if_neg (by omega), ← s1]
      exact m4.kp0 k5
abbrev s_Machine_run : Stmt := inClass (top 73) 12
theorem sc_Machine_run : FnScope ["self", "many", "turn"] ["self", "many"] (defScope s_Machine_run) := ⟨rfl, rfl, rfl, by decide +kernel, rfl, by decide +kernel, by decide +kernel⟩
def sp_run (K : PySem.W.Frag) (C : Addr) : Sp := fun vs H Q _ => ∃ (p ring M G A : Addr) (rs : List Rec) (e : Int) (k : Nat) (ms : MS) (tl : Fs) (n : Nat), vs = [.ref p, .int n] ∧ n ≤ 100000 ∧ MachI K H C p ring M G A rs e k ms tl ∧
  ∀ H', Kp [p, M, G] H H' → MachI K H' C p ring M G A rs e k (runM (ringR rs e k) n ms) tl → Q .non H'
theorem ok_run {C : Addr} (F : At K mg "run" "Machine.run" s_Machine_run ["self", "many"] f fd) (T : Txt K mg) (m_execute_next : GM P w K mg base 3 C "execute_next" ["self"] (sp_execute_next K C)) : FnOk P w K mg base CX0 4 f fd ["self", "many"] (sp_run K C) := by
  refine F.fn.ok sc_Machine_run (fun vs H Q E h => ?_) (fun cdv A0 outer s H vs Q E hr h => ?_)
  · obtain ⟨p, ring, M, G, A, rs, e, k, ms, tl, n, rfl, _⟩ := h
    rfl
  · obtain ⟨p, ring, M, G, A, rs, e, k, ms, tl, n, rfl, hn, m, q⟩ := h
    refine ⟨_, (pss_one (ps_for PassesOwn.never rfl (pi_range1 rfl T.f_range (pa_cons (pv 1) pa_nil)) (pg_name (i := 2) sc_Machine_run.nd rfl (Or.inl rfl)) (pss_one (ps_expr (pe_gm0 m_execute_next (hr.mono (by decide)) (pv 0)))))), ?_⟩
    refine st_for (ei_range (n := n) (ed_var rfl (.int _)) rfl (by omega)) fun H1 k1 => ?_
    refine ⟨fun i σ' H' => ∃ o, σ' = [some (.ref p), some (.int n), o] ∧ Kp [p, M, G] H1 H' ∧ MachI K H' C p ring M G A rs e k (runM (ringR rs e k) i ms) tl, ⟨_, rfl, Kp.refl _ _, m.kp0 k1⟩, fun i σ' H' ⟨_, _, kp, _⟩ => ⟨_, kp, fun _ z => nomatch z⟩, fun i x σ' H2 H2' hi hP hy => ?_, fun σ' H2 hP => ?_⟩
    · obtain ⟨o, rfl, kp, mi⟩ := hP
      obtain ⟨rfl, rfl⟩ := hy
      obtain ⟨dx, wv, ep, tw⟩ := mi.o.ex
      exact ⟨_, rfl, p, dx, _, rfl, ep, by rcases mi.o.tl1 with rfl | ⟨v, rfl⟩ <;> rfl, p, ring, M, G, A, rs, e, k, _, tl, rfl, mi, fun H3 k3 m3 => ⟨_, rfl, kp.trans k3, m3⟩⟩
    · obtain ⟨o, rfl, kp, mi⟩ := hP
      exact q H2 (k1.wid.trans kp) mi
end
end Sr
/-! A machine is made; its attributes. -/
namespace Sr
open PySem PySem.Spec PyProof.Rows L2
section
variable {P : Program} {w : World} {K : PySem.W.Frag} {mg : Str → Option Value} {base : Heap} {f : Addr} {fd : FuncData}
theorem ed_first_memory {C : Addr} {σ : L2.St} {H : Hp} {ta tb : TE} {E : XK} {p : Addr} {rs : List Rec} {e : Int} {k : Nat} {ws : List Int} (ho : EvV ta σ H (.ref p)) (hb : EvD tb σ H (.tuple (ws.map PyData.int))) (ro : RingO H C p rs e k) (hg : RingG rs e k) (hw : ws.length ≤ 4) :
    EvD (tMeth C "first_memory" (sp_Ring_first_memory C) [] E ta (tCons tb tNil)) σ H (.tuple ((firstM k ws).map PyData.int)) := fun H1 k1 Q q =>
  ho H1 k1 _ fun H2 k2 => by
    obtain ⟨dx, v, u, w, ep, _⟩ := (ro.kp (k1.trans k2) (fun m => nomatch m)).ex
    refine ⟨p, dx, _, rfl, ep, rfl, hb H2 (k1.trans k2) _ fun v3 H3 k3 t3 => ?_⟩
    exact ⟨p, rs, e, k, v3, ws, rfl, ro.kp ((k1.trans k2).trans k3) (fun m => nomatch m), hg, t3, hw, fun v H4 k4 t4 => q v H4 ((k2.trans k3).trans k4) t4⟩
def ms0 (k : Nat) (ws : List Int) : MS := { mem := firstM k ws, reg := List.replicate 32 0, row := 0, done := 0, cnt := 0, aff := [] }
theorem firstM_len (k : Nat) (ws : List Int) : (firstM k ws).length = 4 * k * (ws.length + 2) := by
  unfold firstM
  rw [List.length_flatten, List.map_replicate, List.sum_replicate_nat]
  simp
theorem firstM_ok (k : Nat) {ws : List Int} (h : ∀ x ∈ ws, wOk x) : ∀ x ∈ firstM k ws, wOk x := fun x m => by
  unfold firstM at m
  obtain ⟨l, hl, hx⟩ := List.mem_flatten.mp m
  obtain ⟨_, rfl⟩ := List.mem_replicate.mp hl
  have z : wOk 0 := ⟨by decide, by decide⟩
  rcases List.mem_cons.mp hx with rfl | hx
  · exact z
  · rcases List.mem_append.mp hx with hx | hx
    · exact h x hx
    · rw [List.mem_singleton.mp hx]; exact z
theorem ms0_ok {rs : List Rec} {e : Int} {k : Nat} {ws : List Int} (g : RingG rs e k) (hl : ws.length = rs.length) (h : ∀ x ∈ ws, wOk x) : MSok (wordsN rs k) (ringR rs e k).length (ms0 k ws) := by
  have h1 := wordsN_b g
  refine ⟨?_, rfl, firstM_ok k h, fun x m => ?_, ⟨Int.le_refl _, ?_⟩, h1.2⟩
  · show ((firstM k ws).length : Int) = wordsN rs k
    rw [firstM_len, hl]
    unfold wordsN
    rw [Int.natCast_mul, Int.natCast_mul, Int.natCast_add, Int.mul_assoc, Int.mul_assoc, Int.mul_comm (k : Int)]
    rfl
  · rw [(List.mem_replicate.mp m).2]
    exact ⟨by decide, by decide⟩
  · have h2 := lenP_b g.rs
    have h3 := g.k
    show (0 : Int) < ((ringR rs e k).length : Int)
    have : ringR rs e k ≠ [] := fun z => by
      have e1 : pieceP rs ((0 : Nat) : Int) = [] := by
        unfold ringR at z
        exact List.flatMap_eq_nil_iff.mp (List.append_eq_nil_iff.mp z).1 0 (List.mem_range.mpr (by omega))
      have e2 : lenP rs = 0 := by
        unfold lenP
        rw [show pieceP rs (0 : Int) = [] from e1]
        rfl
      omega
    have := List.length_pos_iff.mpr this
    omega
abbrev s_Machine_init : Stmt := inClass (top 73) 0
theorem sc_Machine_init : FnScope ["self", "ring", "first"] ["self", "ring", "first"] (defScope s_Machine_init) := ⟨rfl, rfl, rfl, by decide +kernel, rfl, by decide +kernel, by decide +kernel⟩
def sp_Machine_init (K : PySem.W.Frag) (C : Addr) : Sp := fun vs H Q _ => ∃ (p dx ring : Addr) (v : V) (rs : List Rec) (e : Int) (k : Nat) (ws : List Int), vs = [.ref p, .ref ring, v] ∧ H p = some (.ins C dx []) ∧ RingO H (cR K) ring rs e k ∧ RingG rs e k ∧ TD H v (.tuple (ws.map PyData.int)) ∧ ws.length = rs.length ∧ (∀ x ∈ ws, wOk x) ∧
  ∀ M G A H', Kp [p] H H' → H M = none → H G = none → H A = none → MachI K H' C p ring M G A rs e k (ms0 k ws) [] → Q .non H'
theorem ok_Machine_init {C : Addr} (F : At K mg "__init__" "Machine.__init__" s_Machine_init ["self", "ring", "first"] f fd) (T : Txt K mg) (R : MachT K C) (RT : RingT K) (p_rows : GP P w K mg base 1 (cR K) "rows" (sp_Ring_rows (cR K))) (m_first_memory : GM P w K mg base 1 (cR K) "first_memory" ["self", "state"] (sp_Ring_first_memory (cR K))) :
    FnOk P w K mg base CX0 3 f fd ["self", "ring", "first"] (sp_Machine_init K C) := by
  refine F.fn.ok sc_Machine_init (fun vs H Q E h => ?_) (fun cdv A0 outer s H vs Q E hr h => ?_)
  · obtain ⟨p, dx, ring, v, rs, e, k, ws, rfl, _⟩ := h
    rfl
  · obtain ⟨p, dx, ring, v, rs, e, k, ws, rfl, hp, ro, hg, tv, hw, hwk, q⟩ := h
    refine ⟨_, (pss_cons (ps_fld (pv 0) (pv 1) rfl)
      (pss_cons (ps_fld (pv 0) (pe_gp p_rows (hr.mono (by decide)) (pv 1)) rfl)
      (pss_cons (ps_fld (pv 0) (pe_callTy call_list_of rfl T.f_list (by decide +kernel) (pa_cons (pe_gm m_first_memory (hr.mono (by decide)) (pv 1) (pa_cons (pv 2) pa_nil)) pa_nil)) rfl)
      (pss_cons (ps_fld (pv 0) (pe_op op_rep (pe_lst (pa_cons pe_int pa_nil)) (pe_con (pv 1) rfl)) rfl)
      (pss_cons (ps_fld (pv 0) pe_int rfl)
      (pss_cons (ps_fld (pv 0) pe_int rfl)
      (pss_cons (ps_fld (pv 0) pe_int rfl)
      (pss_one (ps_fld (pv 0) pe_dnewK rfl))))))))), ?_⟩
    have nr : p ≠ ring := fun z => by
      obtain ⟨dr, a, b, c, er, _⟩ := ro.ex
      rw [z, er] at hp
      cases hp
    have hgn := hg.rs.1
    refine sf_v (v := .ref ring) (ev_var rfl) (ev_var rfl) hp R.cl R.na_ring_executed fun H1 k1 e1 => ?_
    dsimp only
    have ns : ∀ {b : Addr}, b ≠ p → b ∉ [p] := fun h m => h (List.mem_singleton.mp m)
    have r1 := ro.kp k1 (ns (Ne.symm nr))
    refine sf_d (ed_Ring_rows (ev_var rfl) r1) (ev_var rfl) e1 R.cl R.na_rows_listed fun w2 H2 k2 t2 e2 => ?_
    dsimp only
    have r2 := r1.kp k2 (ns (Ne.symm nr))
    refine sf_l (el_listT (ed_first_memory (ev_var rfl) (ed_var rfl ((tv.kp k1).kp k2)) r2 hg (by omega))) (ev_var rfl) e2 R.cl R.na_memory_words fun M us H3 hM nM k3 eM tM e3 => ?_
    obtain rfl := TDs.ofInts tM
    dsimp only
    have r3 := r2.kp k3 (ns (Ne.symm nr))
    obtain ⟨dr, ra, rb, rc, er3, _⟩ := r3.ex
    obtain ⟨u, hu⟩ := RT.reg
    refine sf_l (ds := (List.replicate 32 (0 : Int)).map PyData.int) (fun H4 k4 Q4 q4 => ?_) (ev_var rfl) e3 R.cl R.na_register_words fun G us H4 hG nG k4 eG tG e4 => ?_
    · refine (el_lst (eds_cons ed_i eds_nil) (by decide)) H4 k4 _ fun l vs H5 hl k5 el tl => ?_
      obtain rfl : vs = [.int 0] := TDs.ofInts (ns := [0]) tl
      refine ev_con (ev_var rfl) er3 RT.cl hu rfl _ (k4.trans k5) _ fun H6 k6 => ?_
      refine ⟨l, 32, [.int 0], rfl, rfl, k6.get el, by decide, by decide, by decide, fun b hb => ?_⟩
      exact q4 b _ _ (k5.free (k6.free hb)) ((k5.trans k6).newT hb) upd_same (TDs.ints (List.replicate 32 0))
    obtain rfl := TDs.ofInts tG
    dsimp only
    refine sf_v (v := .int 0) ev_c (ev_var rfl) e4 R.cl R.na_next_row fun H5 k5 e5 => ?_
    dsimp only
    refine sf_v (v := .int 0) ev_c (ev_var rfl) e5 R.cl R.na_rows_done fun H6 k6 e6 => ?_
    dsimp only
    refine sf_v (v := .int 0) ev_c (ev_var rfl) e6 R.cl R.na_faults_done fun H7 k7 e7 => ?_
    dsimp only
    have k47 := ((k4.trans k5).trans k6).trans k7
    have k07 := ((k1.trans k2).trans k3).trans k47
    intro A hA
    refine ⟨_, rfl, ?_⟩
    have nA : A ≠ p := fun z => by rw [z, e7] at hA; cases hA
    refine ⟨p, C, dx, _, rfl, by rw [upd_ne (Ne.symm nA)]; exact e7, R.cl, R.na_copies_affected, Nat.lt_succ_of_le (Nat.le_of_ble_eq_true rfl), ?_⟩
    have kA : Kp [] H7 (upd H7 A (.dK [])) := Kp.new hA
    have kp : Kp [p] H7 (upd (upd H7 A (.dK [])) p (.ins C dx (putF "copies_affected" (.ref A) (mfs ring w2 M G A (ms0 k ws) []).dropLast))) := kA.wid.trans (Kp.put (List.mem_singleton.mpr rfl) (by rw [upd_ne (Ne.symm nA)]; exact e7) notup)
    have kall := k07.trans kp
    have oth : ∀ {b : Addr} {o : HO}, b ≠ p → H7 b = some o → (upd (upd H7 A (.dK [])) p (.ins C dx (putF "copies_affected" (.ref A) (mfs ring w2 M G A (ms0 k ws) []).dropLast))) b = some o := fun h e => kp.oth _ _ (ns h) e
    have t7 : TD H7 w2 (.tuple ((ringR rs e k).map rowD)) := (t2.kp k3).kp k47
    have hG0 : H G = none := (((k1.trans k2).trans k3).free hG)
    have hM0 : H M = none := (k1.trans k2).free hM
    refine q M G A _ kall hM0 hG0 (k07.free hA) ⟨⟨⟨dx, w2, upd_same, t7.kp kp⟩, oth nM (k47.oth _ _ (ns nM) eM), oth nG ((((k5.trans k6).trans k7).oth _ _ (ns nG) eG)), ?_, ?_, ?_, .inl rfl⟩, hg, ms0_ok hg hw hwk⟩
    · rw [upd_ne nA]; exact upd_same
    · intro z
      rw [← z] at hG
      rw [eM] at hG
      cases hG
    · exact (r3.kp k47 (ns (Ne.symm nr))).kp kp (ns (Ne.symm nr))
end
end Sr
/-! Faults: what they are, whom they touch. -/
namespace Sr
open PySem PySem.Spec PyProof.Rows L2
abbrev Flt := Row
def FltOk (N L : Int) (f : Flt) : Prop := (∃ a v, f = ro "word" [a, v] ∧ (0 ≤ a ∧ a < N) ∧ wOk v) ∨ (∃ i v, f = ro "register" [i, v] ∧ (0 ≤ i ∧ i < 32) ∧ wOk v) ∨ ∃ r, f = ro "row" [r] ∧ 0 ≤ r ∧ r < L
def affBy (rs : List Rec) (e : Int) (k : Nat) (row : Int) (f : Flt) : Option Int :=
  if f.1 = "word" then some (f.2.getD 0 0 / (4 * ((rs.length : Int) + 2))) else if f.1 = "register" then some (pieceAt rs e k row).2.1
  else if 0 < (pieceAt rs e k (f.2.getD 0 0)).2.2 then some (pieceAt rs e k (f.2.getD 0 0)).2.1 else none
def optD : Option Int → PyData
  | none => .none
  | some i => .int i
def changesB (ms : MS) (f : Flt) : Bool :=
  if f.1 = "word" then !decide (gI ms.mem (f.2.getD 0 0) = f.2.getD 1 0) else if f.1 = "register" then !decide (gI ms.reg (f.2.getD 0 0) = f.2.getD 1 0) else !decide (ms.row = f.2.getD 0 0)
theorem z_wr : ¬ ("word" : Str) = "row" := by decide +kernel
theorem z_gr : ¬ ("register" : Str) = "row" := by decide +kernel
theorem z_gw : ¬ ("register" : Str) = "word" := by decide +kernel
theorem z_rw : ¬ ("row" : Str) = "word" := by decide +kernel
theorem z_rg : ¬ ("row" : Str) = "register" := by decide +kernel
section
variable {P : Program} {w : World} {K : PySem.W.Frag} {mg : Str → Option Value} {base : Heap} {f : Addr} {fd : FuncData}
theorem ed_is_index {σ : L2.St} {H : Hp} {te tb : TE} {E : XK} {i b : Int} (ha : EvD te σ H (.int i)) (hb : EvD tb σ H (.int b)) : EvD (tCall sp_is_index [] E (tCons te (tCons tb tNil))) σ H (.bool (inR 0 i b)) := fun H1 k Q q =>
  ev_i ha H1 k _ fun H2 k2 => ev_i hb H2 (k.trans k2) _ fun H3 k3 => ⟨i, b, rfl, q _ H3 (k2.trans k3) (.bl _)⟩
/-- x not in (2, 3) -/
theorem et_notin2 {K : PySem.W.Frag} {σ : L2.St} {H : Hp} {te : TE} {x a c : Int} {r : R2} (hr : r = fun x y H Q => ∃ p ys, y = .ref p ∧ (SqL K H p ys ∨ SqT K H p ys) ∧ flatV x = true ∧ ys.all flatV = true ∧ Q (.bl (if true = true then !inV x ys else inV x ys)) H) (ha : EvD te σ H (.int x)) :
    EvT (tTest (tOp r te (tTup (tCons (tC (.int a)) (tCons (tC (.int c)) tNil))))) σ H (!decide (x = a ∨ x = c)) := fun H1 k Q q => by
  subst hr
  refine ev_i ha H1 k _ fun H2 k2 => ⟨(by show 2 ≤ sizeLine; decide), fun p hp => ?_⟩
  have k1 : Kp [] H2 (upd H2 p (.tup [.int a, .int c])) := Kp.new hp
  have e1 : inV (.int x) [.int a, .int c] = decide (x = a ∨ x = c) := by
    have hh : ∀ i j : Int, eqV (V.int i) (V.int j) = decide (j = i) := fun i j => by
      show decide (i = j) = _
      exact decide_eq_decide.mpr ⟨Eq.symm, Eq.symm⟩
    unfold inV
    simp [List.any_cons, hh]
  refine ⟨p, _, rfl, .inr (SqT.of upd_same), rfl, rfl, _, rfl, ?_⟩
  show Q (if true = true then !inV (.int x) [.int a, .int c] else inV (.int x) [.int a, .int c]) _
  rw [if_pos rfl, e1]
  exact q _ (k2.trans k1)
abbrev s_is_fault : Stmt := top 61
theorem sc_is_fault : FnScope ["ring", "thing"] ["ring", "thing"] (defScope s_is_fault) := ⟨rfl, rfl, rfl, by decide +kernel, rfl, by decide +kernel, by decide +kernel⟩
def sp_is_fault (K : PySem.W.Frag) : Sp := fun vs H Q _ => ∃ (ring : Addr) (v : V) (rs : List Rec) (e : Int) (k : Nat) (fl : Flt), vs = [.ref ring, v] ∧ RingO H (cR K) ring rs e k ∧ RingG rs e k ∧ TD H v (rowD fl) ∧ FltOk (wordsN rs k) (ringR rs e k).length fl ∧ ∀ H', Kp [] H H' → Q (.bl true) H'
theorem ok_is_fault (F : At K mg "is_fault" "is_fault" s_is_fault ["ring", "thing"] f fd) (T : Txt K mg) (RT : RingT K) (g_is_word : GF P w K mg base 2 "is_word" ["thing"] sp_is_word) (g_is_index : GF P w K mg base 1 "is_index" ["value", "count"] sp_is_index)
    (m_len : GM P w K mg base 1 (cR K) "__len__" ["self"] (sp_Ring_len (cR K))) (p_words : GP P w K mg base 3 (cR K) "words" (sp_Rn (cR K) fun rs _ k => wordsN rs k)) : FnOk P w K mg base CX0 5 f fd ["ring", "thing"] (sp_is_fault K) := by
  refine F.fn.ok sc_is_fault (fun vs H Q E h => ?_) (fun cdv A0 outer s H vs Q E hr h => ?_)
  · obtain ⟨ring, v, rs, e, k, fl, rfl, _⟩ := h
    rfl
  · obtain ⟨ring, v, rs, e, k, fl, rfl, ro_, hg, tv, hf, q⟩ := h
    refine ⟨_, (pss_cons (ps_if (PW.pt (pw_or (pt_not (pt_val (pe_callB call_isi rfl T.f_isinstance (by decide +kernel) (pa_cons (pv 1) (pa_cons (pe_bltn (v := .ty "tuple") (u := .type "tuple") rfl T.f_tuple (by decide +kernel) rfl) pa_nil))))) (pw_or (pt_cmpR op_notIn_seq (pe_callB (r := rLen K) call_len_seq rfl T.f_len PySem.boot_len (pa_cons (pv 1) pa_nil)) (pe_tup (pa_cons (pe_gi T.c_ROW_PARTS rfl) (pa_cons (pe_gi T.c_PARTS rfl) pa_nil))) (by rfl)) (pw_or1 (pt_not (pt_val (pe_callB call_isi rfl T.f_isinstance (by decide +kernel) (pa_cons (pe_ix (r := rIxT K) ix_tup (pv 1) pe_int (fun _ _ => rfl)) (pa_cons (pe_bltn (v := .ty "str") (u := .type "str") rfl T.f_str (by decide +kernel) rfl) pa_nil))))))))) (pss_one (ps_ret pe_bl)) pss_nil)
      (pss_cons (ps_if (pt_cmpR op_eq (pe_ix (r := rIxT K) ix_tup (pv 1) pe_int (fun _ _ => rfl)) (pe_gs T.c_ROW rfl) (nomark _)) (pss_one (ps_ret (pe_and (pe_cmpR op_eq (pe_callB (r := rLen K) call_len_seq rfl T.f_len PySem.boot_len (pa_cons (pv 1) pa_nil)) (pe_gi T.c_ROW_PARTS rfl) (nomark _)) (pe_one (pe_gf g_is_index (hr.mono (by decide)) rfl (pa_cons (pe_ix (r := rIxT K) ix_tup (pv 1) pe_int (fun _ _ => rfl)) (pa_cons (pe_callB (r := rLenO (cR K) (sp_Ring_len (cR K))) (call_lenO m_len (hr.mono (by decide))) rfl T.f_len PySem.boot_len (pa_cons (pv 0) pa_nil)) pa_nil))))))) pss_nil)
      (pss_cons (ps_if (PW.pt (pw_or (pt_cmpR op_ne (pe_callB (r := rLen K) call_len_seq rfl T.f_len PySem.boot_len (pa_cons (pv 1) pa_nil)) (pe_gi T.c_PARTS rfl) (nomark _)) (pw_or1 (pt_not (pt_val (pe_gf g_is_word (hr.mono (by decide)) rfl (pa_cons (pe_ix (r := rIxT K) ix_tup (pv 1) pe_int (fun _ _ => rfl)) pa_nil))))))) (pss_one (ps_ret pe_bl)) pss_nil)
      (pss_cons (ps_if (pt_cmpR op_eq (pe_ix (r := rIxT K) ix_tup (pv 1) pe_int (fun _ _ => rfl)) (pe_gs T.c_WORD rfl) (nomark _)) (pss_one (ps_ret (pe_gf g_is_index (hr.mono (by decide)) rfl (pa_cons (pe_ix (r := rIxT K) ix_tup (pv 1) pe_int (fun _ _ => rfl)) (pa_cons (pe_gp p_words (hr.mono (by decide)) (pv 0)) pa_nil))))) pss_nil)
      (pss_one (ps_ret (pe_and (pe_cmpR op_eq (pe_ix (r := rIxT K) ix_tup (pv 1) pe_int (fun _ _ => rfl)) (pe_gs T.c_REGISTER rfl) (nomark _)) (pe_one (pe_gf g_is_index (hr.mono (by decide)) rfl (pa_cons (pe_ix (r := rIxT K) ix_tup (pv 1) pe_int (fun _ _ => rfl)) (pa_cons (pe_con (pv 0) rfl) pa_nil))))))))))), ?_⟩
    obtain ⟨u, hu⟩ := RT.reg
    have endQ : ∀ {te : TE} {H1 : Hp} {σ : L2.St}, Kp [] H H1 → EvD te σ H1 (.bool true) → tRet te { nx := fun _ H' => Q .non H', rt := Q } σ H1 := fun k1 h => sd_ret h fun v2 H2 k2 t2 => by
      cases t2
      exact q H2 (k1.trans k2)
    rcases hf with ⟨a, x, rfl, ha, hx⟩ | ⟨i, x, rfl, hi, hx⟩ | ⟨r, rfl, hr0⟩
    · refine st_ifF (et_F (et_or (et_not (et_val (ed_isi (ed_var rfl tv) kit_tt))) fun _ => et_or (et_notin2 rfl (ed_lenT (ed_var rfl tv))) fun _ => et_not (et_val (ed_isi (ed_ixT (ed_var rfl tv) ed_i at0) kit_ss))) rfl) fun H1 k1 => ?_
      try delta tNext
      try dsimp only
      have t1 := tv.kp k1
      refine st_ifF (et_F (et_eqS (ed_ixT (ed_var rfl t1) ed_i at0) ed_s) (decide_eq_false z_wr)) fun H2 k2 => ?_
      try delta tNext
      try dsimp only
      have t2 := t1.kp k2
      refine st_ifF (et_F (et_or (et_neI (ed_lenT (ed_var rfl t2)) ed_i) fun _ => et_not (et_val (ed_bT (ed_is_word (ed_ixT (ed_var rfl t2) ed_i at2)) (by unfold isWord; simp; exact hx)))) rfl) fun H3 k3 => ?_
      try delta tNext
      try dsimp only
      have t3 := t2.kp k3
      have k13 := (k1.trans k2).trans k3
      refine st_ifT (et_T (et_eqS (ed_ixT (ed_var rfl t3) ed_i at0) ed_s) (decide_eq_true rfl)) fun H4 k4 => ?_
      exact endQ (k13.trans k4) (ed_bT (ed_is_index (ed_ixT (ed_var rfl (t3.kp k4)) ed_i at1) (ed_Rn (ev_var rfl) (ro_.kp (k13.trans k4) fun z => nomatch z) hg)) (by unfold inR; simp; exact ha))
    · refine st_ifF (et_F (et_or (et_not (et_val (ed_isi (ed_var rfl tv) kit_tt))) fun _ => et_or (et_notin2 rfl (ed_lenT (ed_var rfl tv))) fun _ => et_not (et_val (ed_isi (ed_ixT (ed_var rfl tv) ed_i at0) kit_ss))) rfl) fun H1 k1 => ?_
      try delta tNext
      try dsimp only
      have t1 := tv.kp k1
      refine st_ifF (et_F (et_eqS (ed_ixT (ed_var rfl t1) ed_i at0) ed_s) (decide_eq_false z_gr)) fun H2 k2 => ?_
      try delta tNext
      try dsimp only
      have t2 := t1.kp k2
      refine st_ifF (et_F (et_or (et_neI (ed_lenT (ed_var rfl t2)) ed_i) fun _ => et_not (et_val (ed_bT (ed_is_word (ed_ixT (ed_var rfl t2) ed_i at2)) (by unfold isWord; simp; exact hx)))) rfl) fun H3 k3 => ?_
      try delta tNext
      try dsimp only
      have t3 := t2.kp k3
      have k13 := (k1.trans k2).trans k3
      refine st_ifF (et_F (et_eqS (ed_ixT (ed_var rfl t3) ed_i at0) ed_s) (decide_eq_false z_gw)) fun H4 k4 => ?_
      try delta tNext
      try dsimp only
      have t4 := t3.kp k4
      obtain ⟨dr, ra, rb, rc, er, _⟩ := (ro_.kp (k13.trans k4) (fun z => nomatch z)).ex
      exact endQ (k13.trans k4) (ed_bT (ed_andV (ed_eqS (ed_ixT (ed_var rfl t4) ed_i at0) ed_s) fun _ => ed_is_index (ed_ixT (ed_var rfl t4) ed_i at1) (ed_v (ev_con (ev_var rfl) er RT.cl hu rfl) (.int 32))) (by unfold inR; simp; exact hi))
    · refine st_ifF (et_F (et_or (et_not (et_val (ed_isi (ed_var rfl tv) kit_tt))) fun _ => et_or (et_notin2 rfl (ed_lenT (ed_var rfl tv))) fun _ => et_not (et_val (ed_isi (ed_ixT (ed_var rfl tv) ed_i at0) kit_ss))) rfl) fun H1 k1 => ?_
      try delta tNext
      try dsimp only
      have t1 := tv.kp k1
      refine st_ifT (et_T (et_eqS (ed_ixT (ed_var rfl t1) ed_i at0) ed_s) (decide_eq_true rfl)) fun H2 k2 => ?_
      have t2 := t1.kp k2
      exact endQ (k1.trans k2) (ed_bT (ed_andV (ed_eqI (ed_lenT (ed_var rfl t2)) ed_i) fun _ => ed_is_index (ed_ixT (ed_var rfl t2) ed_i at1) (ed_lenO (ev_var rfl) (ro_.kp (k1.trans k2) fun z => nomatch z) hg)) (by unfold inR; simp; exact hr0))
abbrev s_copy_of_address : Stmt := top 62
theorem sc_copy_of_address : FnScope ["ring", "address"] ["ring", "address"] (defScope s_copy_of_address) := ⟨rfl, rfl, rfl, by decide +kernel, rfl, by decide +kernel, by decide +kernel⟩
def sp_copy_of_address (K : PySem.W.Frag) : Sp := fun vs H Q _ => ∃ (ring : Addr) (rs : List Rec) (e : Int) (k : Nat) (a : Int), vs = [.ref ring, .int a] ∧ RingO H (cR K) ring rs e k ∧ RingG rs e k ∧ 0 ≤ a ∧ ∀ H', Kp [] H H' → Q (.int (a / (4 * ((rs.length : Int) + 2)))) H'
theorem ok_copy_of_address (F : At K mg "copy_of_address" "copy_of_address" s_copy_of_address ["ring", "address"] f fd) (T : Txt K mg) (p_size : GP P w K mg base 1 (cR K) "size" (sp_Rn (cR K) fun rs _ _ => rs.length)) : FnOk P w K mg base CX0 3 f fd ["ring", "address"] (sp_copy_of_address K) := by
  refine F.fn.ok sc_copy_of_address (fun vs H Q E h => ?_) (fun cdv A0 outer s H vs Q E hr h => ?_)
  · obtain ⟨ring, rs, e, k, a, rfl, _⟩ := h
    rfl
  · obtain ⟨ring, rs, e, k, a, rfl, ro_, hg, ha, q⟩ := h
    refine ⟨_, (pss_one (ps_ret (pe_op op_fdiv (pv 1) (pe_op op_mul (pe_gi T.c_STORES_faults rfl) (pe_op op_add (pe_gp p_size (hr.mono (by decide)) (pv 0)) pe_int))))), ?_⟩
    have hgn := hg.rs.1
    refine sd_ret (ed_fdiv (ed_var rfl (.int a)) (ed_mul ed_i (ed_add (ed_Rn (ev_var rfl) ro_ hg) ed_i) (.inl ⟨by decide, by decide⟩)) ⟨by omega, by omega⟩) fun v1 H1 k1 t1 => ?_
    cases t1
    exact q H1 k1
abbrev s_affected_by : Stmt := top 63
theorem sc_affected_by : FnScope ["ring", "row", "fault", "piece", "copy", "index"] ["ring", "row", "fault"] (defScope s_affected_by) := ⟨rfl, rfl, rfl, by decide +kernel, rfl, by decide +kernel, by decide +kernel⟩
def sp_affected_by (K : PySem.W.Frag) : Sp := fun vs H Q _ => ∃ (ring : Addr) (v : V) (rs : List Rec) (e : Int) (k : Nat) (row : Int) (fl : Flt), vs = [.ref ring, .int row, v] ∧ RingO H (cR K) ring rs e k ∧ RingG rs e k ∧ TD H v (rowD fl) ∧ FltOk (wordsN rs k) (ringR rs e k).length fl ∧
  ∀ u H', Kp [] H H' → TD H' u (optD (affBy rs e k row fl)) → Q u H'
theorem ok_affected_by (F : At K mg "affected_by" "affected_by" s_affected_by ["ring", "row", "fault"] f fd) (T : Txt K mg) (g_copy_of_address : GF P w K mg base 3 "copy_of_address" ["ring", "address"] (sp_copy_of_address K)) (m_piece_at : GM P w K mg base 1 (cR K) "piece_at" ["self", "row"] (sp_Ring_piece_at (cR K))) :
    FnOk P w K mg base CX0 4 f fd ["ring", "row", "fault"] (sp_affected_by K) := by
  refine F.fn.ok sc_affected_by (fun vs H Q E h => ?_) (fun cdv A0 outer s H vs Q E hr h => ?_)
  · obtain ⟨ring, v, rs, e, k, row, fl, rfl, _⟩ := h
    rfl
  · obtain ⟨ring, v, rs, e, k, row, fl, rfl, ro_, hg, tv, hf, q⟩ := h
    refine ⟨_, (pss_cons (ps_if (pt_cmpR op_eq (pe_ix (r := rIxT K) ix_tup (pv 2) pe_int (fun _ _ => rfl)) (pe_gs T.c_WORD rfl) (nomark _)) (pss_one (ps_ret (pe_gf g_copy_of_address (hr.mono (by decide)) rfl (pa_cons (pv 0) (pa_cons (pe_ix (r := rIxT K) ix_tup (pv 2) pe_int (fun _ _ => rfl)) pa_nil))))) pss_nil)
      (pss_cons (ps_if (pt_cmpR op_eq (pe_ix (r := rIxT K) ix_tup (pv 2) pe_int (fun _ _ => rfl)) (pe_gs T.c_REGISTER rfl) (nomark _)) (pss_one (ps_ret (pe_ix (r := rIxT K) ix_tup (pe_gm m_piece_at (hr.mono (by decide)) (pv 0) (pa_cons (pv 1) pa_nil)) pe_int (fun _ _ => rfl)))) pss_nil)
      (pss_cons (ps_asg (pe_gm m_piece_at (hr.mono (by decide)) (pv 0) (pa_cons (pe_ix (r := rIxT K) ix_tup (pv 2) pe_int (fun _ _ => rfl)) pa_nil)) (pg_tup rfl (pgs_cons (pg_name (i := 3) sc_affected_by.nd rfl (Or.inl rfl)) (pgs_cons (pg_name (i := 4) sc_affected_by.nd rfl (Or.inl rfl)) (pgs_cons (pg_name (i := 5) sc_affected_by.nd rfl (Or.inl rfl)) pgs_nil)))))
      (pss_one (ps_ret (pe_ifExp (pt_cmpR op_gt (pv 5) pe_int (nomark _)) (pv 4) pe_non)))))), ?_⟩
    rcases hf with ⟨a, x, rfl, ha, hx⟩ | ⟨i, x, rfl, hi, hx⟩ | ⟨r, rfl, hr0⟩
    · refine st_ifT (et_T (et_eqS (ed_ixT (ed_var rfl tv) ed_i at0) ed_s) (decide_eq_true rfl)) fun H1 k1 => ?_
      refine ⟨_, rfl, (ed_ixT (K := K) (ed_var rfl (tv.kp k1)) ed_i at1) H1 (Kp.refl _ _) _ fun v3 H3 k3 t3 => ?_⟩
      cases t3
      exact ⟨ring, rs, e, k, a, rfl, ro_.kp (k1.trans k3) (fun z => nomatch z), hg, ha.1, fun H4 k4 => q _ H4 ((k1.trans k3).trans k4) (.int _)⟩
    · refine st_ifF (et_F (et_eqS (ed_ixT (ed_var rfl tv) ed_i at0) ed_s) (decide_eq_false z_gw)) fun H1 k1 => ?_
      try delta tNext
      try dsimp only
      refine st_ifT (et_T (et_eqS (ed_ixT (ed_var rfl (tv.kp k1)) ed_i at0) ed_s) (decide_eq_true rfl)) fun H2 k2 => ?_
      refine sd_ret (ed_ixT (ed_piece_at (ev_var rfl) (ed_var rfl (.int row)) (ro_.kp (k1.trans k2) fun z => nomatch z) hg) ed_i at1) fun v3 H3 k3 t3 => ?_
      refine q v3 H3 ((k1.trans k2).trans k3) ?_
      show TD H3 v3 (optD (if ("register" : Str) = "word" then _ else if ("register" : Str) = "register" then _ else _))
      rw [if_neg z_gw, if_pos rfl]
      exact t3
    · refine st_ifF (et_F (et_eqS (ed_ixT (ed_var rfl tv) ed_i at0) ed_s) (decide_eq_false z_rw)) fun H1 k1 => ?_
      try delta tNext
      try dsimp only
      refine st_ifF (et_F (et_eqS (ed_ixT (ed_var rfl (tv.kp k1)) ed_i at0) ed_s) (decide_eq_false z_rg)) fun H2 k2 => ?_
      try delta tNext
      try dsimp only
      refine st_tup (ed_piece_at (ev_var rfl) (ed_ixT (ed_var rfl ((tv.kp k1).kp k2)) ed_i at1) (ro_.kp (k1.trans k2) fun z => nomatch z) hg) rfl fun xs H3 k3 t3 => ?_
      have ea : affBy rs e k row (ro "row" [r]) = if 0 < (pieceAt rs e k r).2.2 then some (pieceAt rs e k r).2.1 else none := by
        unfold affBy
        rw [if_neg z_rw, if_neg z_rg]
        rfl
      rw [ea] at q
      generalize pieceAt rs e k r = pc at t3 q
      obtain ⟨z, c, ix⟩ := pc
      cases t3 with | cons t3a t3b => cases t3b with | cons t3b t3c => cases t3c with | cons t3c t3d =>
      cases t3a
      cases t3b
      cases t3c
      cases t3d
      refine ⟨_, _, rfl, ⟨_, _, rfl, ⟨_, _, rfl, rfl, ?_⟩⟩⟩
      try dsimp only
      refine sd_ret (d := optD (if 0 < ix then some c else none)) (ed_if (et_gt (ed_var rfl (.int ix)) ed_i) (fun hc => ?_) fun hc => ?_) fun v4 H4 k4 t4 => q v4 H4 (((k1.trans k2).trans k3).trans k4) t4
      · rw [if_pos (of_decide_eq_true hc)]
        exact ed_var rfl (.int c)
      · rw [if_neg (of_decide_eq_false hc)]
        exact ed_n
end
end Sr
/-! Faults happen. -/
namespace Sr
open PySem PySem.Spec PyProof.Rows L2
def putA (aff : List Int) : Option Int → List Int
  | none => aff
  | some c => if c ∈ aff then aff else aff ++ [c]
def noteM (rs : List Rec) (e : Int) (k : Nat) (ms : MS) (f : Flt) : MS := { ms with cnt := ms.cnt + 1, aff := putA ms.aff (affBy rs e k ms.row f) }
def applyF (ms : MS) (f : Flt) : MS :=
  if f.1 = "word" then { ms with mem := setI ms.mem (f.2.getD 0 0) (f.2.getD 1 0) } else if f.1 = "register" then { ms with reg := setI ms.reg (f.2.getD 0 0) (f.2.getD 1 0) } else { ms with row := f.2.getD 0 0 }
def sufferM (rs : List Rec) (e : Int) (k : Nat) (ms : MS) (f : Flt) : MS := if changesB ms f = true then applyF (noteM rs e k ms f) f else ms
/-- the story behind a fault -/
def sufferS (ms : MS) (f : Flt) (st : Option (List (Int × Flt))) : Option (List (Int × Flt)) := if changesB ms f = true then st.map (· ++ [(ms.done, f)]) else st
def storyD (st : List (Int × Flt)) : PyData := .tuple (st.map fun x => .tuple [.int x.1, rowD x.2])
def TlS (H : Hp) (tl : Fs) : Option (List (Int × Flt)) → Prop
  | none => tl = []
  | some st => ∃ v, tl = ([("faults_noted", v)] : Fs) ∧ TD H v (storyD st)
theorem TlS.ok {H : Hp} {tl : Fs} {st : Option (List (Int × Flt))} (h : TlS H tl st) : TlOk tl := by
  cases st with
  | none => exact .inl h
  | some st => obtain ⟨v, e, _⟩ := h; exact .inr ⟨v, e⟩
theorem TlS.kp {S : List Addr} {H H' : Hp} {tl : Fs} {st : Option (List (Int × Flt))} (h : TlS H tl st) (k : Kp S H H') : TlS H' tl st := by
  cases st with
  | none => exact h
  | some st => obtain ⟨v, e, t⟩ := h; exact ⟨v, e, t.kp k⟩
/-- a machine; st: its story if it records one -/
structure MachR (K : PySem.W.Frag) (H : Hp) (C p ring M G A : Addr) (rs : List Rec) (e : Int) (k : Nat) (ms : MS) (st : Option (List (Int × Flt))) : Prop where
  ex : ∃ tl, MachI K H C p ring M G A rs e k ms tl ∧ TlS H tl st
  aff : ms.aff.Nodup ∧ ∀ c ∈ ms.aff, 0 ≤ c ∧ c < 5
  stl : ∀ s, st = some s → s.length ≤ 1000
theorem nodup_len {L : List Int} : ∀ {xs : List Int}, xs.Nodup → (∀ x ∈ xs, x ∈ L) → xs.length ≤ L.length
  | [], _, _ => Nat.zero_le _
  | x :: xs, h, hs => by
    have hx := hs x List.mem_cons_self
    have ih := nodup_len (L := L.erase x) (xs := xs) (List.nodup_cons.mp h).2 fun y m => (List.mem_erase_of_ne (fun z => (List.nodup_cons.mp h).1 (by rw [← z]; exact m))).mpr (hs y (List.mem_cons_of_mem _ m))
    rw [List.length_erase_of_mem hx] at ih
    have := List.length_pos_of_mem hx
    rw [List.length_cons]
    omega
theorem aff_len {aff : List Int} (h : aff.Nodup ∧ ∀ c ∈ aff, 0 ≤ c ∧ c < 5) : aff.length ≤ 5 := nodup_len (L := [0, 1, 2, 3, 4]) h.1 fun c m => by
  have := h.2 c m
  have : c = 0 ∨ c = 1 ∨ c = 2 ∨ c = 3 ∨ c = 4 := by omega
  simp [this]
theorem putA_ok {aff : List Int} {o : Option Int} (h : aff.Nodup ∧ ∀ c ∈ aff, 0 ≤ c ∧ c < 5) (ho : ∀ c, o = some c → 0 ≤ c ∧ c < 5) : (putA aff o).Nodup ∧ ∀ c ∈ putA aff o, 0 ≤ c ∧ c < 5 := by
  cases o with
  | none => exact h
  | some c =>
    unfold putA
    by_cases m : c ∈ aff
    · simp only [if_pos m]; exact h
    · simp only [if_neg m]
      refine ⟨List.nodup_append.mpr ⟨h.1, by simp, fun a ha b hb => ?_⟩, fun x hx => ?_⟩
      · rw [List.mem_singleton.mp hb]
        exact fun z => m (z ▸ ha)
      · rcases List.mem_append.mp hx with hx | hx
        · exact h.2 x hx
        · rw [List.mem_singleton.mp hx]; exact ho c rfl
theorem putK_aff (aff : List Int) (c : Int) : putK (affK aff) (Sum.inl c) (V.bl true) = affK (putA aff (some c)) := by
  unfold putK affK
  show _ = List.map (fun c => (Sum.inl c, V.bl true)) (if c ∈ aff then aff else aff ++ [c])
  by_cases m : c ∈ aff
  · rw [if_pos (by simp only [List.any_eq_true, List.mem_map]; exact ⟨_, ⟨c, m, rfl⟩, decide_eq_true rfl⟩), if_pos m, List.map_map]
    refine List.map_congr_left fun x hx => ?_
    show (if (Sum.inl x : Key) = Sum.inl c then ((Sum.inl x : Key), V.bl true) else (Sum.inl x, V.bl true)) = _
    split <;> rfl
  · rw [if_neg (by
      simp only [List.any_eq_true, List.mem_map]
      rintro ⟨_, ⟨x, hx, rfl⟩, h⟩
      have h := of_decide_eq_true h
      injection h with h
      exact m (h ▸ hx)), if_neg m, List.map_append]
    rfl
/-- which copies there are -/
theorem ringR_eq {rs : List Rec} {e : Int} {k : Nat} : ((ringR rs e k).length : Int) = lenP rs * k + lenQ rs e k * k := by
  have hs : ∀ (g : Nat → List Row) (n : Nat), (∀ i, (g i).length = n) → ∀ k, ((List.range k).flatMap g).length = n * k := fun g n h k => by
    induction k with
    | zero => rfl
    | succ k ih => rw [List.range_succ, List.flatMap_append, List.length_append, ih, List.flatMap_cons, List.flatMap_nil, List.append_nil, h, Nat.mul_succ]
  unfold ringR lenP lenQ
  rw [List.length_append, hs _ _ (fun i => pieceP_sz rs i 0), hs _ (pieceQ rs.length e k 0).length (fun i => by rw [pieceQ_len, pieceQ_len])]
  omega
theorem div_lt {a b k : Int} (hb : 0 < b) (h : a < b * k) : a / b < k := Int.ediv_lt_of_lt_mul hb (by rw [Int.mul_comm]; exact h)
theorem pieceAt_c {rs : List Rec} {e : Int} {k : Nat} {r : Int} (g : RingG rs e k) (h0 : 0 ≤ r) (h1 : r < (ringR rs e k).length) : 0 ≤ (pieceAt rs e k r).2.1 ∧ (pieceAt rs e k r).2.1 < k := by
  have hP := lenP_b g.rs
  have hQ := lenQ_b rs e g.k.2
  rw [ringR_eq] at h1
  unfold pieceAt
  split
  · exact ⟨Int.ediv_nonneg h0 (by omega), div_lt (by omega) (by omega)⟩
  · exact ⟨Int.ediv_nonneg (by omega) (by omega), div_lt (by omega) (by omega)⟩
theorem affBy_ok {rs : List Rec} {e : Int} {k : Nat} {row : Int} {f : Flt} (g : RingG rs e k) (h : 0 ≤ row ∧ row < (ringR rs e k).length) (hf : FltOk (wordsN rs k) (ringR rs e k).length f) : ∀ c, affBy rs e k row f = some c → 0 ≤ c ∧ c < 5 := fun c hc => by
  have hk := g.k
  have hn := g.rs.1
  rcases hf with ⟨a, x, rfl, ha, hx⟩ | ⟨i, x, rfl, hi, hx⟩ | ⟨r, rfl, hr0⟩
  · unfold affBy at hc
    rw [if_pos rfl] at hc
    cases hc
    show 0 ≤ a / (4 * ((rs.length : Int) + 2)) ∧ a / (4 * ((rs.length : Int) + 2)) < 5
    have h2 : a / (4 * ((rs.length : Int) + 2)) < k := div_lt (by omega) (by have := ha.2; unfold wordsN at this; exact this)
    exact ⟨Int.ediv_nonneg ha.1 (by omega), by omega⟩
  · unfold affBy at hc
    rw [if_neg z_gw, if_pos rfl] at hc
    cases hc
    have := pieceAt_c g h.1 h.2
    omega
  · unfold affBy at hc
    rw [if_neg z_rw, if_neg z_rg] at hc
    have := pieceAt_c g hr0.1 hr0.2
    split at hc
    · cases hc
      show 0 ≤ (pieceAt rs e k r).2.1 ∧ (pieceAt rs e k r).2.1 < 5
      omega
    · cases hc
theorem noteM_ok {rs : List Rec} {e : Int} {k : Nat} {ms : MS} {f : Flt} {N L : Int} (h : MSok N L ms) : MSok N L (noteM rs e k ms f) := ⟨h.ml, h.rl, h.mw, h.rw_, h.row, h.nb⟩
theorem applyF_ok {ms : MS} {f : Flt} {N L : Int} (h : MSok N L ms) (hf : FltOk N L f) : MSok N L (applyF ms f) := by
  rcases hf with ⟨a, x, rfl, ha, hx⟩ | ⟨i, x, rfl, hi, hx⟩ | ⟨r, rfl, hr0⟩
  · exact ⟨by show (((setI ms.mem a x).length : Nat) : Int) = N; rw [setI_len]; exact h.ml, h.rl, setI_ok h.mw hx, h.rw_, h.row, h.nb⟩
  · unfold applyF
    rw [if_neg z_gw, if_pos rfl]
    exact ⟨h.ml, by show (setI ms.reg i x).length = 32; rw [setI_len]; exact h.rl, h.mw, setI_ok h.rw_ hx, h.row, h.nb⟩
  · unfold applyF
    rw [if_neg z_rw, if_neg z_rg]
    exact ⟨h.ml, h.rl, h.mw, h.rw_, hr0, h.nb⟩
section
variable {P : Program} {w : World} {K : PySem.W.Frag} {mg : Str → Option Value} {base : Heap} {f : Addr} {fd : FuncData}
theorem MachR.kp {K : PySem.W.Frag} {H H' : Hp} {C p ring M G A : Addr} {rs : List Rec} {e : Int} {k : Nat} {ms : MS} {st : Option (List (Int × Flt))} {S : List Addr} (m : MachR K H C p ring M G A rs e k ms st) (kp : Kp S H H') (h : ∀ b ∈ S, b ≠ p ∧ b ≠ M ∧ b ≠ G ∧ b ≠ A ∧ b ≠ ring) : MachR K H' C p ring M G A rs e k ms st := by
  obtain ⟨tl, mi, t⟩ := m.ex
  exact ⟨⟨tl, ⟨mi.o.kp kp h, mi.g, mi.ok⟩, t.kp kp⟩, m.aff, m.stl⟩
theorem MachR.kp0 {K : PySem.W.Frag} {H H' : Hp} {C p ring M G A : Addr} {rs : List Rec} {e : Int} {k : Nat} {ms : MS} {st : Option (List (Int × Flt))} (m : MachR K H C p ring M G A rs e k ms st) (kp : Kp [] H H') : MachR K H' C p ring M G A rs e k ms st := m.kp kp fun _ z => nomatch z
abbrev s_Machine_changes_anything : Stmt := inClass (top 73) 14
theorem sc_Machine_changes_anything : FnScope ["self", "fault"] ["self", "fault"] (defScope s_Machine_changes_anything) := ⟨rfl, rfl, rfl, by decide +kernel, rfl, by decide +kernel, by decide +kernel⟩
def sp_changes (K : PySem.W.Frag) (C : Addr) : Sp := fun vs H Q _ => ∃ (p ring M G A : Addr) (rs : List Rec) (e : Int) (k : Nat) (ms : MS) (tl : Fs) (v : V) (fl : Flt), vs = [.ref p, v] ∧ MachI K H C p ring M G A rs e k ms tl ∧ TD H v (rowD fl) ∧ FltOk (wordsN rs k) (ringR rs e k).length fl ∧ ∀ H', Kp [] H H' → Q (.bl (changesB ms fl)) H'
theorem ok_changes {C : Addr} (F : At K mg "changes_anything" "Machine.changes_anything" s_Machine_changes_anything ["self", "fault"] f fd) (T : Txt K mg) (R : MachT K C) : FnOk P w K mg base CX0 1 f fd ["self", "fault"] (sp_changes K C) := by
  refine F.fn.ok sc_Machine_changes_anything (fun vs H Q E h => ?_) (fun cdv A0 outer s H vs Q E hr h => ?_)
  · obtain ⟨p, ring, M, G, A, rs, e, k, ms, tl, v, fl, rfl, _⟩ := h
    rfl
  · obtain ⟨p, ring, M, G, A, rs, e, k, ms, tl, v, fl, rfl, m, tv, hf, q⟩ := h
    refine ⟨_, (pss_cons (ps_if (pt_cmpR op_eq (pe_ix (r := rIxT K) ix_tup (pv 1) pe_int (fun _ _ => rfl)) (pe_gs T.c_WORD rfl) (nomark _)) (pss_one (ps_ret (pe_cmpR op_ne (pe_ix (r := rIxL K) ix_list (pe_fldK (K := K) (pv 0) rfl) (pe_ix (r := rIxT K) ix_tup (pv 1) pe_int (fun _ _ => rfl)) (fun _ _ => rfl)) (pe_ix (r := rIxT K) ix_tup (pv 1) pe_int (fun _ _ => rfl)) (nomark _)))) pss_nil)
      (pss_cons (ps_if (pt_cmpR op_eq (pe_ix (r := rIxT K) ix_tup (pv 1) pe_int (fun _ _ => rfl)) (pe_gs T.c_REGISTER rfl) (nomark _)) (pss_one (ps_ret (pe_cmpR op_ne (pe_ix (r := rIxL K) ix_list (pe_fldK (K := K) (pv 0) rfl) (pe_ix (r := rIxT K) ix_tup (pv 1) pe_int (fun _ _ => rfl)) (fun _ _ => rfl)) (pe_ix (r := rIxT K) ix_tup (pv 1) pe_int (fun _ _ => rfl)) (nomark _)))) pss_nil)
      (pss_one (ps_ret (pe_cmpR op_ne (pe_fldK (K := K) (pv 0) rfl) (pe_ix (r := rIxT K) ix_tup (pv 1) pe_int (fun _ _ => rfl)) (nomark _)))))), ?_⟩
    obtain ⟨dx, wv, ep, tw⟩ := m.o.ex
    have hml := m.ok.ml
    have hrl := m.ok.rl
    have endQ : ∀ {te : TE} {H1 : Hp} {σ : L2.St} {b : Bool}, Kp [] H H1 → b = changesB ms fl → EvD te σ H1 (.bool b) → tRet te { nx := fun _ H' => Q .non H', rt := Q } σ H1 := fun k1 hb h => sd_ret h fun v2 H2 k2 t2 => by
      cases t2
      rw [hb]
      exact q H2 (k1.trans k2)
    have lM : List.lookup ("memory_words" : Str) (mfs ring wv M G A ms tl) = some (V.ref M) := by rcases m.o.tl1 with rfl | ⟨v, rfl⟩ <;> rfl
    have lG : List.lookup ("register_words" : Str) (mfs ring wv M G A ms tl) = some (V.ref G) := by rcases m.o.tl1 with rfl | ⟨v, rfl⟩ <;> rfl
    have lR : List.lookup ("next_row" : Str) (mfs ring wv M G A ms tl) = some (V.int ms.row) := by rcases m.o.tl1 with rfl | ⟨v, rfl⟩ <;> rfl
    rcases hf with ⟨a, x, rfl, ha, hx⟩ | ⟨i, x, rfl, hi, hx⟩ | ⟨r, rfl, hr0⟩
    · refine st_ifT (et_T (et_eqS (ed_ixT (ed_var rfl tv) ed_i at0) ed_s) (decide_eq_true rfl)) fun H1 k1 => ?_
      have t1 := tv.kp k1
      refine endQ (b := !decide (gI ms.mem a = x)) k1 ?_ (ed_neI (ed_gI (ev_fld (ev_var rfl) (k1.get ep) R.cl R.na_memory_words lM) (k1.get m.o.hM) (ed_ixT (ed_var rfl t1) ed_i at1) ha.1 (by omega)) (ed_ixT (ed_var rfl t1) ed_i at2))
      unfold changesB
      rw [if_pos rfl]
      rfl
    · refine st_ifF (et_F (et_eqS (ed_ixT (ed_var rfl tv) ed_i at0) ed_s) (decide_eq_false z_gw)) fun H1 k1 => ?_
      try delta tNext
      try dsimp only
      refine st_ifT (et_T (et_eqS (ed_ixT (ed_var rfl (tv.kp k1)) ed_i at0) ed_s) (decide_eq_true rfl)) fun H2 k2 => ?_
      have t2 := (tv.kp k1).kp k2
      have kk := k1.trans k2
      refine endQ (b := !decide (gI ms.reg i = x)) kk ?_ (ed_neI (ed_gI (ev_fld (ev_var rfl) (kk.get ep) R.cl R.na_register_words lG) (kk.get m.o.hG) (ed_ixT (ed_var rfl t2) ed_i at1) hi.1 (by omega)) (ed_ixT (ed_var rfl t2) ed_i at2))
      unfold changesB
      rw [if_neg z_gw, if_pos rfl]
      rfl
    · refine st_ifF (et_F (et_eqS (ed_ixT (ed_var rfl tv) ed_i at0) ed_s) (decide_eq_false z_rw)) fun H1 k1 => ?_
      try delta tNext
      try dsimp only
      refine st_ifF (et_F (et_eqS (ed_ixT (ed_var rfl (tv.kp k1)) ed_i at0) ed_s) (decide_eq_false z_rg)) fun H2 k2 => ?_
      try delta tNext
      try dsimp only
      have t2 := (tv.kp k1).kp k2
      have kk := k1.trans k2
      refine endQ (b := !decide (ms.row = r)) kk ?_ (ed_neI (ed_v (ev_fld (ev_var rfl) (kk.get ep) R.cl R.na_next_row lR) (.int _)) (ed_ixT (ed_var rfl t2) ed_i at1))
      unfold changesB
      rw [if_neg z_rw, if_neg z_rg]
      rfl
abbrev s_Machine_note : Stmt := inClass (top 73) 15
theorem sc_Machine_note : FnScope ["self", "fault", "copy"] ["self", "fault"] (defScope s_Machine_note) := ⟨rfl, rfl, rfl, by decide +kernel, rfl, by decide +kernel, by decide +kernel⟩
def sp_note0 (K : PySem.W.Frag) (C : Addr) : Sp := fun vs H Q _ => ∃ (p ring M G A : Addr) (rs : List Rec) (e : Int) (k : Nat) (ms : MS) (tl : Fs) (v : V) (fl : Flt), vs = [.ref p, v] ∧ MachI K H C p ring M G A rs e k ms tl ∧ ms.aff.length ≤ 5 ∧ TD H v (rowD fl) ∧ FltOk (wordsN rs k) (ringR rs e k).length fl ∧
  ∀ H', Kp [p, A] H H' → MachI K H' C p ring M G A rs e k (noteM rs e k ms fl) tl → Q .non H'
theorem ok_note0 {C : Addr} (F : At K mg "note" "Machine.note" s_Machine_note ["self", "fault"] f fd) (T : Txt K mg) (R : MachT K C) (g_affected_by : GF P w K mg base 4 "affected_by" ["ring", "row", "fault"] (sp_affected_by K)) : FnOk P w K mg base CX0 5 f fd ["self", "fault"] (sp_note0 K C) := by
  refine F.fn.ok sc_Machine_note (fun vs H Q E h => ?_) (fun cdv A0 outer s H vs Q E hr h => ?_)
  · obtain ⟨p, ring, M, G, A, rs, e, k, ms, tl, v, fl, rfl, _⟩ := h
    rfl
  · obtain ⟨p, ring, M, G, A, rs, e, k, ms, tl, v, fl, rfl, m, hal, tv, hf, q⟩ := h
    refine ⟨_, (pss_cons (ps_fldaug (pv 0) pe_int in_add)
      (pss_cons (ps_set (i := 2) sc_Machine_note.nd rfl (Or.inl rfl) (pe_gf g_affected_by (hr.mono (by decide)) rfl (pa_cons (pe_fldK (K := K) (pv 0) rfl) (pa_cons (pe_fldK (K := K) (pv 0) rfl) (pa_cons (pv 1) pa_nil)))))
      (pss_one (ps_if (pt_cmpR op_notN (pv 2) pe_non (nomark _)) (pss_one (ps_dput (hu_of hr) (pe_fldK (K := K) (pv 0) rfl) (pv 2) pe_bl rfl)) pss_nil)))), ?_⟩
    obtain ⟨dx, wv, ep, tw⟩ := m.o.ex
    have hfl : ∀ (w : V) (ms : MS), Nat.ble (mfs ring w M G A ms tl).length 999 = true := fun w ms => mfs_len m.o.tl1
    have lk : ∀ (ms : MS), List.lookup ("faults_done" : Str) (mfs ring wv M G A ms tl) = some (V.int ms.cnt) ∧ List.lookup ("ring_executed" : Str) (mfs ring wv M G A ms tl) = some (V.ref ring) ∧ List.lookup ("next_row" : Str) (mfs ring wv M G A ms tl) = some (V.int ms.row) ∧ List.lookup ("copies_affected" : Str) (mfs ring wv M G A ms tl) = some (V.ref A) := fun ms => by
      rcases m.o.tl1 with rfl | ⟨v, rfl⟩ <;> exact ⟨rfl, rfl, rfl, rfl⟩
    refine sf_add (x := ms.cnt) (y := 1) ed_i (ev_var rfl) ep R.cl R.na_faults_done (lk ms).1 (fun H Q q => ⟨_, _, rfl, rfl, q⟩) (fun H1 k1 e1 => ?_) (hfl wv ms)
    have m1 : MachO K H1 C p ring M G A rs e k { ms with cnt := ms.cnt + 1 } tl := m.o.atP k1 e1 (tw.kp k1) rfl rfl rfl m.o.tl1
    have e1 : H1 p = some (.ins C dx (mfs ring wv M G A { ms with cnt := ms.cnt + 1 } tl)) := e1
    obtain ⟨n1, n2, n3, n4, n5, n6, n7, n8, n9⟩ := m.o.nes
    try dsimp only
    refine st_asg ?_
    unfold tCall tCons
    dsimp only
    show tFld K (tVar 0) "ring_executed" _ _ _
    refine (ev_fld (K := K) (ev_var rfl) e1 R.cl R.na_ring_executed (lk _).2.1) H1 (Kp.refl _ _) _ fun H2 k2 => ?_
    show tFld K (tVar 0) "next_row" _ _ _
    refine (ev_fld (K := K) (ev_var rfl) (k2.get e1) R.cl R.na_next_row (lk _).2.2.1) H2 (Kp.refl _ _) _ fun H3 k3 => ?_
    refine ⟨_, rfl, ?_⟩
    have k23 := k2.trans k3
    refine ⟨ring, v, rs, e, k, ms.row, fl, rfl, m1.hR.kp k23 (fun z => nomatch z), m.g, (tv.kp k1).kp k23, hf, fun u H4 k4 t4 => ?_⟩
    have k24 := k23.trans k4
    have ep4 := k24.get e1
    have hA4 := k24.get m1.hA
    have m4 := m1.kp0 k24
    have k04 : Kp [p, A] H H4 := (k1.mono fun b hb => by rw [List.mem_singleton.mp hb]; exact List.mem_cons_self).trans k24.wid
    unfold noteM at q
    generalize affBy rs e k ms.row fl = o at t4 q
    cases o with
    | none =>
      cases t4
      try dsimp only
      refine st_ifF (et_F (et_notN rfl (ev_var rfl)) rfl) fun H5 k5 => ?_
      try delta tNext
      exact q H5 (k04.trans k5.wid) ⟨m4.kp0 k5, m.g, ⟨m.ok.ml, m.ok.rl, m.ok.mw, m.ok.rw_, m.ok.row, m.ok.nb⟩⟩
    | some c =>
      cases t4
      try dsimp only
      refine st_ifT (et_T (et_notN rfl (ev_var rfl)) rfl) fun H5 k5 => ?_
      unfold sDPut tC
      show tFld K (tVar 0) "copies_affected" _ _ _
      refine (ev_fld (K := K) (ev_var rfl) (k5.get ep4) R.cl R.na_copies_affected (lk _).2.2.2) H5 (Kp.refl _ _) _ fun H6 k6 => ?_
      refine ⟨_, rfl, A, _, rfl, DPut.k (k := Sum.inl c) ((k5.trans k6).get hA4) (Nat.lt_of_le_of_lt (by unfold affK; rw [List.length_map]; exact hal) (by decide)), ?_⟩
      have hA6 := (k5.trans k6).get hA4
      have kA : Kp [A] H6 (upd H6 A (.dK (putK (affK ms.aff) (Sum.inl c) (V.bl true)))) := Kp.put (List.mem_singleton.mpr rfl) hA6 fun xs z => HO.noConfusion z
      have m6 := m4.kp0 (k5.trans k6)
      obtain ⟨dx6, w6, ep6, tw6⟩ := m6.ex
      refine q _ ((k04.trans (k5.trans k6).wid).trans (kA.mono fun b hb => by rw [List.mem_singleton.mp hb]; simp)) ⟨⟨⟨dx6, w6, by rw [upd_ne n3]; exact ep6, tw6.kp kA⟩, by rw [upd_ne n4]; exact m6.hM, by rw [upd_ne n5]; exact m6.hG, ?_, m6.ne, m6.hR.kp kA fun z => n8 (List.mem_singleton.mp z), m6.tl1⟩, m.g, ⟨m.ok.ml, m.ok.rl, m.ok.mw, m.ok.rw_, m.ok.row, m.ok.nb⟩⟩
      rw [upd_same, putK_aff]
end
end Sr
/-! Machine: suffer, strike, play. -/
namespace Sr
open PySem PySem.Spec PyProof.Rows L2
theorem sufferM_ok {rs : List Rec} {e : Int} {k : Nat} {ms : MS} {f : Flt} {N L : Int} (h : MSok N L ms) (hf : FltOk N L f) : MSok N L (sufferM rs e k ms f) := by
  unfold sufferM
  split
  · exact applyF_ok (noteM_ok h) hf
  · exact h
section
variable {P : Program} {w : World} {K : PySem.W.Frag} {mg : Str → Option Value} {base : Heap} {f : Addr} {fd : FuncData}
def sp_note (K : PySem.W.Frag) (C : Addr) (b : Bool) : Sp := fun vs H Q _ => ∃ (p ring M G A : Addr) (rs : List Rec) (e : Int) (k : Nat) (ms : MS) (st : Option (List (Int × Flt))) (v : V) (fl : Flt), vs = [.ref p, v] ∧ MachR K H C p ring M G A rs e k ms st ∧ st.isSome = b ∧ (∀ s, st = some s → s.length < 1000) ∧ TD H v (rowD fl) ∧ FltOk (wordsN rs k) (ringR rs e k).length fl ∧
  ∀ H', Kp [p, A] H H' → MachR K H' C p ring M G A rs e k (noteM rs e k ms fl) (st.map (· ++ [(ms.done, fl)])) → Q .non H'
/-- of the plain class -/
theorem note_plain {C : Addr} {ps : List Str} (h : FnOk P w K mg base CX0 5 f fd ps (sp_note0 K C)) : FnOk P w K mg base CX0 6 f fd ps (sp_note K C false) := (h.mono (by decide)).imp fun vs H Q E ⟨p, ring, M, G, A, rs, e, k, ms, st, v, fl, ev, m, hst, hl, tv, hf, q⟩ => by
  cases st with
  | some s => cases hst
  | none =>
    obtain ⟨tl, mi, t⟩ := m.ex
    exact ⟨p, ring, M, G, A, rs, e, k, ms, tl, v, fl, ev, mi, aff_len m.aff, tv, hf, fun H' k' m' => q H' k' ⟨⟨tl, m', t⟩, putA_ok m.aff (affBy_ok mi.g mi.ok.row hf), fun _ z => nomatch z⟩⟩
abbrev s_Machine_suffer : Stmt := inClass (top 73) 16
theorem sc_Machine_suffer : FnScope ["self", "fault"] ["self", "fault"] (defScope s_Machine_suffer) := ⟨rfl, rfl, rfl, by decide +kernel, rfl, by decide +kernel, by decide +kernel⟩
def sp_suffer (K : PySem.W.Frag) (C : Addr) (b : Bool) : Sp := fun vs H Q _ => ∃ (p ring M G A : Addr) (rs : List Rec) (e : Int) (k : Nat) (ms : MS) (st : Option (List (Int × Flt))) (v : V) (fl : Flt), vs = [.ref p, v] ∧ MachR K H C p ring M G A rs e k ms st ∧ st.isSome = b ∧ (∀ s, st = some s → s.length < 1000) ∧ TD H v (rowD fl) ∧ FltOk (wordsN rs k) (ringR rs e k).length fl ∧
  ∀ H', Kp [p, M, G, A] H H' → MachR K H' C p ring M G A rs e k (sufferM rs e k ms fl) (sufferS ms fl st) → Q .non H'
theorem ok_suffer {C : Addr} {b : Bool} (F : At K mg "suffer" "Machine.suffer" s_Machine_suffer ["self", "fault"] f fd) (T : Txt K mg) (R : MachT K C) (m_changes_anything : GM P w K mg base 1 C "changes_anything" ["self", "fault"] (sp_changes K C)) (m_note : GM P w K mg base 6 C "note" ["self", "fault"] (sp_note K C b)) : FnOk P w K mg base CX0 7 f fd ["self", "fault"] (sp_suffer K C b) := by
  refine F.fn.ok sc_Machine_suffer (fun vs H Q E h => ?_) (fun cdv A0 outer s H vs Q E hr h => ?_)
  · obtain ⟨p, ring, M, G, A, rs, e, k, ms, st, v, fl, rfl, _⟩ := h
    rfl
  · obtain ⟨p, ring, M, G, A, rs, e, k, ms, st, v, fl, rfl, m, hst, hl, tv, hf, q⟩ := h
    refine ⟨_, (pss_one (ps_if (pt_val (pe_gm m_changes_anything (hr.mono (by decide)) (pv 0) (pa_cons (pv 1) pa_nil))) (pss_cons (ps_expr (pe_gm m_note (hr.mono (by decide)) (pv 0) (pa_cons (pv 1) pa_nil)))
      (pss_one (ps_if (pt_cmpR op_eq (pe_ix (r := rIxT K) ix_tup (pv 1) pe_int (fun _ _ => rfl)) (pe_gs T.c_WORD rfl) (nomark _)) (pss_one (ps_asg (pe_ix (r := rIxT K) ix_tup (pv 1) pe_int (fun _ _ => rfl)) (pg_sub (pe_fldK (K := K) (pv 0) rfl) (pe_ix (r := rIxT K) ix_tup (pv 1) pe_int (fun _ _ => rfl)) set_list))) (pss_one (ps_if (pt_cmpR op_eq (pe_ix (r := rIxT K) ix_tup (pv 1) pe_int (fun _ _ => rfl)) (pe_gs T.c_REGISTER rfl) (nomark _)) (pss_one (ps_asg (pe_ix (r := rIxT K) ix_tup (pv 1) pe_int (fun _ _ => rfl)) (pg_sub (pe_fldK (K := K) (pv 0) rfl) (pe_ix (r := rIxT K) ix_tup (pv 1) pe_int (fun _ _ => rfl)) set_list))) (pss_one (ps_fld (pv 0) (pe_ix (r := rIxT K) ix_tup (pv 1) pe_int (fun _ _ => rfl)) rfl))))))) pss_nil)), ?_⟩
    obtain ⟨tl, mi, ht⟩ := m.ex
    obtain ⟨dx, wv, ep, tw⟩ := mi.o.ex
    have hgs : ∀ {H' : Hp} {ms : MS} {tl : Fs} (mm : MachI K H' C p ring M G A rs e k ms tl), ∃ dx w, H' p = some (.ins C dx (mfs ring w M G A ms tl)) ∧ List.lookup ("changes_anything" : Str) (mfs ring w M G A ms tl) = none ∧ List.lookup ("note" : Str) (mfs ring w M G A ms tl) = none ∧ List.lookup ("memory_words" : Str) (mfs ring w M G A ms tl) = some (V.ref M) ∧ List.lookup ("register_words" : Str) (mfs ring w M G A ms tl) = some (V.ref G) ∧ TD H' w (.tuple ((ringR rs e k).map rowD)) := fun mm => by
      obtain ⟨dx, w, ep, tw⟩ := mm.o.ex
      refine ⟨dx, w, ep, ?_⟩
      rcases mm.o.tl1 with rfl | ⟨v, rfl⟩ <;> exact ⟨rfl, rfl, rfl, rfl, tw⟩
    have hch : EvT (tB (tMeth C "changes_anything" (sp_changes K C) [] E0 (tVar 0) (tCons (tVar 1) tNil))) (L2.start ["self", "fault"] [.ref p, v]) H (changesB ms fl) := fun H1 k1 Q1 q1 => by
      obtain ⟨dx, w, ep, l1, _⟩ := hgs (mi.kp0 k1)
      exact ⟨_, rfl, p, dx, _, rfl, ep, l1, _, rfl, p, ring, M, G, A, rs, e, k, ms, tl, v, fl, rfl, mi.kp0 k1, tv.kp k1, hf, fun H2 k2 => ⟨_, rfl, q1 H2 k2⟩⟩
    refine st_if hch (fun hc H1 k1 => ?_) fun hc H1 k1 => ?_
    · have m1 := m.kp0 k1
      have e1 : sufferM rs e k ms fl = applyF (noteM rs e k ms fl) fl := if_pos hc
      have e2 : sufferS ms fl st = st.map (· ++ [(ms.done, fl)]) := if_pos hc
      rw [e1, e2] at q
      obtain ⟨dx1, w1, ep1, _, l2, _⟩ := hgs (mi.kp0 k1)
      show tSeq _ _ _ _ _
      refine ⟨_, rfl, p, dx1, _, rfl, ep1, l2, _, rfl, p, ring, M, G, A, rs, e, k, ms, st, v, fl, rfl, m1, hst, hl, tv.kp k1, hf, fun H2 k2 m2 => ?_⟩
      have k02 : Kp [p, M, G, A] H H2 := k1.wid.trans (k2.mono fun b hb => by
        rcases List.mem_cons.mp hb with rfl | hb
        · simp
        · rw [List.mem_singleton.mp hb]; simp)
      have t2 := (tv.kp k1).kp k2
      obtain ⟨tl2, mi2, ht2⟩ := m2.ex
      have aff2 := m2.aff
      have stl2 := m2.stl
      generalize noteM rs e k ms fl = ms2 at mi2 aff2 q
      generalize hst2 : st.map (· ++ [(ms.done, fl)]) = st2 at ht2 stl2 q
      have hml := mi2.ok.ml
      have hrl := mi2.ok.rl
      have okA := applyF_ok mi2.ok hf
      rcases hf with ⟨a, x, rfl, ha, hx⟩ | ⟨i, x, rfl, hi, hx⟩ | ⟨r, rfl, hr0⟩
      · refine st_ifT (et_T (et_eqS (ed_ixT (ed_var rfl t2) ed_i at0) ed_s) (decide_eq_true rfl)) fun H3 k3 => ?_
        have mi3 := mi2.kp0 k3
        obtain ⟨dx3, w3, ep3, _, _, lM, _⟩ := hgs mi3
        refine sg_set (ed_ixT (ed_var rfl (t2.kp k3)) ed_i at2) (ev_fld (ev_var rfl) ep3 R.cl R.na_memory_words lM) (ed_ixT (ed_var rfl (t2.kp k3)) ed_i at1) mi3.o.hM ha.1 (by omega) fun H4 k4 => ?_
        have m4 := mi3.o.kp0 k4
        exact q _ ((k02.trans (k3.trans k4).wid).trans ((m4.kpM _).mono fun b hb => by rw [List.mem_singleton.mp hb]; simp)) ⟨⟨tl2, ⟨m4.setM _, mi2.g, okA⟩, (ht2.kp (k3.trans k4)).kp (m4.kpM _)⟩, aff2, stl2⟩
      · refine st_ifF (et_F (et_eqS (ed_ixT (ed_var rfl t2) ed_i at0) ed_s) (decide_eq_false z_gw)) fun H3 k3 => ?_
        refine st_ifT (et_T (et_eqS (ed_ixT (ed_var rfl (t2.kp k3)) ed_i at0) ed_s) (decide_eq_true rfl)) fun H4 k4 => ?_
        have mi4 := mi2.kp0 (k3.trans k4)
        obtain ⟨dx3, w3, ep3, _, _, _, lG, _⟩ := hgs mi4
        refine sg_set (ed_ixT (ed_var rfl (t2.kp (k3.trans k4))) ed_i at2) (ev_fld (ev_var rfl) ep3 R.cl R.na_register_words lG) (ed_ixT (ed_var rfl (t2.kp (k3.trans k4))) ed_i at1) mi4.o.hG hi.1 (by omega) fun H5 k5 => ?_
        have m5 := mi4.o.kp0 k5
        have eA : applyF ms2 (ro "register" [i, x]) = { ms2 with reg := setI ms2.reg i x } := by
          unfold applyF
          rw [if_neg z_gw, if_pos rfl]
          rfl
        rw [eA] at q okA
        exact q _ ((k02.trans ((k3.trans k4).trans k5).wid).trans ((m5.kpG _).mono fun b hb => by rw [List.mem_singleton.mp hb]; simp)) ⟨⟨tl2, ⟨m5.setG _, mi2.g, okA⟩, (ht2.kp ((k3.trans k4).trans k5)).kp (m5.kpG _)⟩, aff2, stl2⟩
      · refine st_ifF (et_F (et_eqS (ed_ixT (ed_var rfl t2) ed_i at0) ed_s) (decide_eq_false z_rw)) fun H3 k3 => ?_
        refine st_ifF (et_F (et_eqS (ed_ixT (ed_var rfl (t2.kp k3)) ed_i at0) ed_s) (decide_eq_false z_rg)) fun H4 k4 => ?_
        have mi4 := mi2.kp0 (k3.trans k4)
        obtain ⟨dx3, w3, ep3, _, _, _, _, tw3⟩ := hgs mi4
        have eA : applyF ms2 (ro "row" [r]) = { ms2 with row := r } := by
          unfold applyF
          rw [if_neg z_rw, if_neg z_rg]
          rfl
        rw [eA] at q okA
        refine sf_v (v := .int r) (ev_i (ed_ixT (ed_var rfl (t2.kp (k3.trans k4))) ed_i at1)) (ev_var rfl) ep3 R.cl R.na_next_row (fun H5 k5 e5 => ?_) (mfs_len (ring := ring) (w := w3) (M := M) (G := G) (A := A) (ms := ms2) mi4.o.tl1)
        exact q _ ((k02.trans (k3.trans k4).wid).trans (k5.mono fun b hb => by rw [List.mem_singleton.mp hb]; simp)) ⟨⟨tl2, ⟨mi4.o.atP (ms' := { ms2 with row := r }) k5 e5 (tw3.kp k5) rfl rfl rfl mi4.o.tl1, mi2.g, okA⟩, (ht2.kp (k3.trans k4)).kp k5⟩, aff2, stl2⟩
    · try delta tNext
      have e1 : sufferM rs e k ms fl = ms := if_neg (by rw [hc]; exact Bool.false_ne_true)
      have e2 : sufferS ms fl st = st := if_neg (by rw [hc]; exact Bool.false_ne_true)
      rw [e1, e2] at q
      exact q H1 k1.wid (m.kp0 k1)
end
end Sr
/-! Machine: strike, play. -/
namespace Sr
open PySem PySem.Spec PyProof.Rows L2
/-- a method with a star parameter -/
structure GMS (P : Program) (w : World) (K : PySem.W.Frag) (mg : Str → Option Value) (base : Heap) (k : Nat) (C : Addr) (m : Str) (sp : Sp) : Prop where
  cl : Cls K C
  ex : ∃ f, Meth K C m f ∧ FnR P w K mg base CX0 k f sp
theorem pe_gms {X : Cx} {k : Nat} {C : Addr} {m : Str} {sp : Sp} {o e : Expr} {es : List Expr} {ta : TE} {t : TA} {apos pos : Pos} {pl : Sem Bool} (G : GMS X.prog X.w X.K X.mg X.base k C m sp) (hr : Room k X.A) (he : PE X o ta) (ha : PA X (e :: es) t)
    (hst : starEach (e :: es) X.env = (false, eval e X.env) :: starEach es X.env := by rfl) (hpl : (backTo pos (starEach es X.env)).any (·.1) = false := by rfl)
    (ht : eval (.Call (.Attribute o m apos) (e :: es) [] pos) X.env = (do
      let ov ← eval o X.env
      standAt apos.atName
      let (g, first) ← holding [ov] (getMethod ov m pl)
      callWith pos g first (backTo pos (starEach (e :: es) X.env)) (backToKw pos (keywordEach [] X.env))) := by rfl) : PE X (.Call (.Attribute o m apos) (e :: es) [] pos) (tMethR C m sp E0 ta t) := by
  obtain ⟨f, hm, F⟩ := G.ex
  exact pe_methR he G.cl hm F hr pass0 ha hst hpl ht
section
variable {P : Program} {w : World} {K : PySem.W.Frag} {mg : Str → Option Value} {base : Heap} {f : Addr} {fd : FuncData}
abbrev s_Machine_strike : Stmt := inClass (top 73) 17
theorem sc_Machine_strike : FnScope ["self", "faults", "fault"] ["self", "faults"] (defScope s_Machine_strike) := ⟨rfl, rfl, rfl, by decide +kernel, rfl, by decide +kernel, by decide +kernel⟩
def sp_strike (K : PySem.W.Frag) (C : Addr) (b : Bool) : Sp := fun vs H Q _ => ∃ (p ring M G A : Addr) (rs : List Rec) (e : Int) (k : Nat) (ms : MS) (st : Option (List (Int × Flt))) (v : V) (fl : Flt), vs = [.ref p, v] ∧ MachR K H C p ring M G A rs e k ms st ∧ st.isSome = b ∧ (∀ s, st = some s → s.length < 1000) ∧ TD H v (rowD fl) ∧ FltOk (wordsN rs k) (ringR rs e k).length fl ∧
  ∀ H', Kp [p, M, G, A] H H' → MachR K H' C p ring M G A rs e k (sufferM rs e k ms fl) (sufferS ms fl st) → Q .non H'
theorem ok_strike {C : Addr} {b : Bool} (F : Fun K "strike" "Machine.strike" s_Machine_strike f fd) (hb : ∀ us rest : List Value, us.length = ["self"].length → bindArgs fd ⟨us ++ rest, []⟩ = (newTuple rest >>= fun t => pure ((["self"] : List Str).zip us ++ [(("faults" : Str), t)]))) (T : Txt K mg) (R : MachT K C)
    (g_is_fault : GF P w K mg base 5 "is_fault" ["ring", "thing"] (sp_is_fault K)) (m_suffer : GM P w K mg base 7 C "suffer" ["self", "fault"] (sp_suffer K C b)) : FnR P w K mg base CX0 8 f (sp_strike K C b) := by
  obtain ⟨oc, od, kV, doc, pm, an, cdv, ct, osl, rfl, lk, hcd⟩ := F.ex
  refine (StX.fn_star (k := 7) (ps := ["self"]) (pv := "faults") (sp := fun vs H Q E => ∃ (u : Addr) (v : V), vs = [vs.headD .non, .ref u] ∧ H u = some (.tup [v]) ∧ sp_strike K C b [vs.headD .non, v] H Q E) lk hcd sc_Machine_strike StX.cxUp_none hb fun A0 outer s H vs Q E hr h => ?_).imp fun vs H Q E h => ?_
  · obtain ⟨u, v0, ev, hu, p, ring, M, G, A, rs, e, k, ms, st, v, fl, e2, m, hst, hl, tv, hf, q⟩ := h
    rw [ev]
    injection e2 with e2 e3
    injection e3 with e3 _
    subst e3
    rw [e2]
    clear ev e2 vs
    suffices key : ∃ t, PSs (cxOf CX0 P w K mg base ["self", "faults", "fault"] "Machine.strike" (defScope s_Machine_strike) f cdv A0 outer s H E).nox (defBody s_Machine_strike) t ∧ t { nx := fun _ H' => Q .non H', rt := Q } (L2.start ["self", "faults", "fault"] [.ref p, .ref u]) H from let ⟨t, h, q⟩ := key; ⟨t, h.nox, q⟩
    refine ⟨_, (pss_cons (ps_for PassesOwn.never rfl (pi_tup (pv 1)) (pg_name (i := 2) sc_Machine_strike.nd rfl (Or.inl rfl)) (pss_one (ps_if (pt_not (pt_val (pe_gf g_is_fault (hr.mono (by decide)) rfl (pa_cons (pe_fldK (K := K) (pv 0) rfl) (pa_cons (pv 2) pa_nil))))) (pss_one ps_never) pss_nil)))
      (pss_one (ps_for PassesOwn.never rfl (pi_tup (pv 1)) (pg_name (i := 2) sc_Machine_strike.nd rfl (Or.inl rfl)) (pss_one (ps_expr (pe_gm m_suffer (hr.mono (by decide)) (pv 0) (pa_cons (pv 2) pa_nil))))))), ?_⟩
    refine st_for (ei_tup (ev_var rfl) hu) fun H1 k1 => ?_
    refine ⟨fun i σ' H' => ∃ o, σ' = [some (.ref p), some (.ref u), o] ∧ Kp [] H1 H', ⟨_, rfl, Kp.refl _ _⟩, fun i σ' H' ⟨_, _, kp⟩ => ⟨_, kp, fun _ z => nomatch z⟩, fun i x σ' H2 H2' hi hP hy => ?_, fun σ' H2 hP => ?_⟩
    · obtain ⟨o, rfl, kp⟩ := hP
      obtain ⟨rfl, hx⟩ := hy
      have ex : x = v0 := by
        have : i = 0 := by simp at hi; omega
        subst this
        simpa using hx.symm
      subst ex
      have kk := k1.trans kp
      obtain ⟨tl, mi, ht⟩ := (m.kp0 kk).ex
      obtain ⟨dx, wv, ep, tw⟩ := mi.o.ex
      refine st_ifF (et_not (b := true) fun H3 k3 Q3 q3 => ?_) fun H3 k3 => ?_
      · refine ⟨_, rfl, p, C, dx, _, .ref ring, rfl, k3.get ep, R.cl, R.na_ring_executed, by rcases mi.o.tl1 with rfl | ⟨v, rfl⟩ <;> rfl, _, rfl, ring, _, rs, e, k, fl, rfl, mi.o.hR.kp k3 (fun z => nomatch z), mi.g, tv.kp (kk.trans k3), hf, fun H4 k4 => ⟨_, rfl, q3 H4 k4⟩⟩
      · try delta tNext
        exact ⟨_, rfl, kp.trans k3⟩
    · obtain ⟨o, rfl, kp⟩ := hP
      have kk := k1.trans kp
      refine st_for (ei_tup (ev_var rfl) (kk.get hu)) fun H3 k3 => ?_
      have k03 := kk.trans k3
      refine ⟨fun i σ' H' => ∃ o, σ' = [some (.ref p), some (.ref u), o] ∧ ((i = 0 ∧ Kp [] H3 H') ∨ (i = 1 ∧ Kp [p, M, G, A] H3 H' ∧ MachR K H' C p ring M G A rs e k (sufferM rs e k ms fl) (sufferS ms fl st))), ⟨_, rfl, .inl ⟨rfl, Kp.refl _ _⟩⟩, fun i σ' H' ⟨_, _, h⟩ => ?_, fun i x σ' H4 H4' hi hP hy => ?_, fun σ' H4 hP => ?_⟩
      · rcases h with ⟨_, kp⟩ | ⟨_, kp, _⟩ <;> exact ⟨_, kp, fun _ z => nomatch z⟩
      · obtain ⟨o, rfl, hd⟩ := hP
        obtain ⟨rfl, hx⟩ := hy
        have e0 : i = 0 := by simp at hi; omega
        subst e0
        have ex : x = v0 := by simpa using hx.symm
        subst ex
        rcases hd with ⟨_, kp4⟩ | ⟨z, _⟩
        · have k04 := k03.trans kp4
          have m4 := m.kp0 k04
          obtain ⟨tl, mi, ht⟩ := m4.ex
          obtain ⟨dx, wv, ep, tw⟩ := mi.o.ex
          exact ⟨_, rfl, p, dx, _, rfl, ep, by rcases mi.o.tl1 with rfl | ⟨v, rfl⟩ <;> rfl, _, rfl, p, ring, M, G, A, rs, e, k, ms, st, _, fl, rfl, m4, hst, hl, tv.kp k04, hf, fun H5 k5 m5 => ⟨_, rfl, .inr ⟨rfl, kp4.wid.trans k5, m5⟩⟩⟩
        · exact absurd z (by decide)
      · obtain ⟨o, rfl, hd⟩ := hP
        rcases hd with ⟨z, _⟩ | ⟨_, k4, m4⟩
        · exact absurd z (by simp)
        · exact q H4 (k03.wid.trans k4) m4
  · obtain ⟨p, ring, M, G, A, rs, e, k, ms, st, v, fl, rfl, m, hst, hl, tv, hf, q⟩ := h
    refine ⟨[.ref p], [v], rfl, rfl, (show 1 ≤ sizeLine by decide), fun u hu => ⟨u, v, rfl, upd_same, p, ring, M, G, A, rs, e, k, ms, st, v, fl, rfl, m.kp0 (Kp.new hu), hst, hl, tv.kp (Kp.new (S := []) hu), hf, fun H' k' m' => q H' ((Kp.new hu).trans k') m'⟩⟩
abbrev s_Machine_play : Stmt := inClass (top 73) 18
theorem sc_Machine_play : FnScope ["self", "story", "executed", "time", "fault"] ["self", "story", "executed"] (defScope s_Machine_play) := ⟨rfl, rfl, rfl, by decide +kernel, rfl, by decide +kernel, by decide +kernel⟩
/-- a story played on -/
def replay (rs : List Rec) (e : Int) (k : Nat) : MS → List (Int × Flt) → MS
  | ms, [] => ms
  | ms, x :: r => replay rs e k (sufferM rs e k (runM (ringR rs e k) (x.1 - ms.done).toNat ms) x.2) r
def PlayOk (rs : List Rec) (e : Int) (k : Nat) (n : Int) : MS → List (Int × Flt) → Prop
  | ms, [] => ms.done ≤ n
  | ms, x :: r => ms.done ≤ x.1 ∧ x.1 ≤ n ∧ FltOk (wordsN rs k) (ringR rs e k).length x.2 ∧ PlayOk rs e k n (sufferM rs e k (runM (ringR rs e k) (x.1 - ms.done).toNat ms) x.2) r
theorem replay_snoc {rs : List Rec} {e : Int} {k : Nat} : ∀ (st : List (Int × Flt)) (ms : MS) (x : Int × Flt), replay rs e k ms (st ++ [x]) = sufferM rs e k (runM (ringR rs e k) (x.1 - (replay rs e k ms st).done).toNat (replay rs e k ms st)) x.2
  | [], _, _ => rfl
  | y :: st, ms, x => replay_snoc st _ x
theorem runM_done (R : List Row) (ms : MS) : ∀ n : Nat, (runM R n ms).done = ms.done + n
  | 0 => by simp [runM]
  | n + 1 => by
    show (runM R n ms).done + 1 = _
    rw [runM_done R ms n]
    omega
theorem sufferM_done {rs : List Rec} {e : Int} {k : Nat} {ms : MS} {f : Flt} : (sufferM rs e k ms f).done = ms.done := by
  unfold sufferM applyF noteM
  repeat' split
  all_goals rfl
theorem runM_cnt (R : List Row) (ms : MS) : ∀ n : Nat, (runM R n ms).aff = ms.aff
  | 0 => rfl
  | n + 1 => by
    show (exec (runM R n ms) _).aff = _
    rw [(exec_same _ _).2.2.2, runM_cnt R ms n]
theorem sufferM_aff {rs : List Rec} {e : Int} {k : Nat} {ms : MS} {f : Flt} (g : RingG rs e k) (h : 0 ≤ ms.row ∧ ms.row < (ringR rs e k).length) (hf : FltOk (wordsN rs k) (ringR rs e k).length f) (ha : ms.aff.Nodup ∧ ∀ c ∈ ms.aff, 0 ≤ c ∧ c < 5) : (sufferM rs e k ms f).aff.Nodup ∧ ∀ c ∈ (sufferM rs e k ms f).aff, 0 ≤ c ∧ c < 5 := by
  unfold sufferM
  split
  · have : (applyF (noteM rs e k ms f) f).aff = putA ms.aff (affBy rs e k ms.row f) := by
      unfold applyF
      repeat' split
      all_goals rfl
    rw [this]
    exact putA_ok ha (affBy_ok g h hf)
  · exact ha
def sp_play (K : PySem.W.Frag) (C : Addr) : Sp := fun vs H Q _ => ∃ (p ring M G A : Addr) (rs : List Rec) (e : Int) (k : Nat) (ms : MS) (v : V) (st : List (Int × Flt)) (n : Int), vs = [.ref p, v, .int n] ∧ MachR K H C p ring M G A rs e k ms none ∧ 0 ≤ ms.done ∧ n ≤ 100000 ∧ TD H v (storyD st) ∧ PlayOk rs e k n ms st ∧
  ∀ H', Kp [p, M, G, A] H H' → MachR K H' C p ring M G A rs e k (runM (ringR rs e k) (n - (replay rs e k ms st).done).toNat (replay rs e k ms st)) none → Q .non H'
theorem MachR.run {K : PySem.W.Frag} {H H' : Hp} {C p ring M G A : Addr} {rs : List Rec} {e : Int} {k : Nat} {ms : MS} {st : Option (List (Int × Flt))} {tl : Fs} {n : Nat} (m : MachR K H C p ring M G A rs e k ms st) (ht : TlS H' tl st) (mi : MachI K H' C p ring M G A rs e k (runM (ringR rs e k) n ms) tl) : MachR K H' C p ring M G A rs e k (runM (ringR rs e k) n ms) st :=
  ⟨⟨tl, mi, ht⟩, by rw [runM_cnt]; exact m.aff, m.stl⟩
theorem Kp.m3 {H H' : Hp} {p M G A : Addr} (k : Kp [p, M, G] H H') : Kp [p, M, G, A] H H' := k.mono fun b hb => by
  simp at hb ⊢
  rcases hb with h | h | h <;> simp [h]
theorem ok_play {C : Addr} (F : At K mg "play" "Machine.play" s_Machine_play ["self", "story", "executed"] f fd) (T : Txt K mg) (R : MachT K C) (m_run : GM P w K mg base 4 C "run" ["self", "many"] (sp_run K C)) (m_suffer : GM P w K mg base 7 C "suffer" ["self", "fault"] (sp_suffer K C false)) : FnOk P w K mg base CX0 8 f fd ["self", "story", "executed"] (sp_play K C) := by
  refine F.fn.ok sc_Machine_play (fun vs H Q E h => ?_) (fun cdv A0 outer s H vs Q E hr h => ?_)
  · obtain ⟨p, ring, M, G, A, rs, e, k, ms, v, st, n, rfl, _⟩ := h
    rfl
  · obtain ⟨p, ring, M, G, A, rs, e, k, ms, v, st, n, rfl, m, hd, hn, tv, hp, q⟩ := h
    refine ⟨_, (pss_cons (ps_for PassesOwn.never rfl (pi_tup (pv 1)) (pg_tup rfl (pgs_cons (pg_name (i := 3) sc_Machine_play.nd rfl (Or.inl rfl)) (pgs_cons (pg_name (i := 4) sc_Machine_play.nd rfl (Or.inl rfl)) pgs_nil))) (pss_one (ps_if (pt_cmpR op_le (pv 3) (pv 2) (nomark _)) (pss_cons (ps_expr (pe_gm m_run (hr.mono (by decide)) (pv 0) (pa_cons (pe_op op_sub (pv 3) (pe_fldK (K := K) (pv 0) rfl)) pa_nil)))
      (pss_one (ps_expr (pe_gm m_suffer (hr.mono (by decide)) (pv 0) (pa_cons (pv 4) pa_nil))))) pss_nil)))
      (pss_one (ps_expr (pe_gm m_run (hr.mono (by decide)) (pv 0) (pa_cons (pe_op op_sub (pv 2) (pe_fldK (K := K) (pv 0) rfl)) pa_nil))))), ?_⟩
    -- one run
    have run1 : ∀ {te : TE} {σ : L2.St} {H1 : Hp} {ms1 : MS} {x : Int} {D : Ends}, σ[0]? = some (some (.ref p)) → MachR K H1 C p ring M G A rs e k ms1 none → EvD te σ H1 (.int x) → 0 ≤ ms1.done → ms1.done ≤ x → x ≤ n → (∀ H2, Kp [p, M, G] H1 H2 → MachR K H2 C p ring M G A rs e k (runM (ringR rs e k) (x - ms1.done).toNat ms1) none → D.nx σ H2) →
        tDrop (tMeth C "run" (sp_run K C) [] E0 (tVar 0) (tCons (tOp (rI0 fun i j => .int (i - j)) te (tFld K (tVar 0) "rows_done")) tNil)) D σ H1 := fun {te σ H1 ms1 x D} h0 m1 hx h1 h2 h3 nx => by
      obtain ⟨tl, mi, ht⟩ := m1.ex
      obtain ⟨dx, wv, ep, tw⟩ := mi.o.ex
      refine ⟨_, h0, p, dx, _, rfl, ep, by rcases mi.o.tl1 with rfl | ⟨v, rfl⟩ <;> rfl, ?_⟩
      refine (ed_sub hx (ed_v (ev_fld (K := K) (ev_var h0) ep R.cl R.na_rows_done (by rcases mi.o.tl1 with rfl | ⟨v, rfl⟩ <;> rfl)) (.int ms1.done))) H1 (Kp.refl _ _) _ fun v2 H2 k2 t2 => ?_
      cases t2
      refine ⟨p, ring, M, G, A, rs, e, k, ms1, tl, (x - ms1.done).toNat, by rw [Int.toNat_of_nonneg (by omega)]; rfl, by omega, mi.kp0 k2, fun H3 k3 m3 => ?_⟩
      exact nx H3 (k2.wid.trans k3) (m1.run ((ht.kp k2).kp k3) m3)
    refine st_forF (ei_tupD (ed_var rfl tv)) fun H1 k1 => ?_
    refine ⟨fun i σ' H' => ∃ o1 o2 ms1, σ' = [some (.ref p), some v, some (.int n), o1, o2] ∧ Kp [p, M, G, A] H1 H' ∧ MachR K H' C p ring M G A rs e k ms1 none ∧ 0 ≤ ms1.done ∧ PlayOk rs e k n ms1 (st.drop i) ∧ replay rs e k ms st = replay rs e k ms1 (st.drop i), ⟨_, _, ms, rfl, Kp.refl _ _, m.kp0 k1, hd, hp, rfl⟩, fun i σ' H' ⟨_, _, _, _, kp, _⟩ => ⟨_, kp, fun b hb => ?_⟩, fun i x σ' H2 H2' hi hP hy => ?_, fun σ' H2 hP => ?_⟩
    · obtain ⟨tl, mi, ht⟩ := m.ex
      obtain ⟨dx, wv, ep, tw⟩ := mi.o.ex
      simp only [List.mem_cons, List.not_mem_nil, or_false] at hb
      rcases hb with rfl | rfl | rfl | rfl
      · exact ⟨_, ep⟩
      · exact ⟨_, mi.o.hM⟩
      · exact ⟨_, mi.o.hG⟩
      · exact ⟨_, mi.o.hA⟩
    · obtain ⟨o1, o2, ms1, rfl, kp, m1, hd1, hp1, hrp⟩ := hP
      obtain ⟨rfl, d, hdd, td⟩ := hy
      rw [List.length_map] at hi
      have hdr : st.drop i = st[i] :: st.drop (i + 1) := List.drop_eq_getElem_cons hi
      rw [List.getElem?_map, List.getElem?_eq_getElem hi] at hdd
      cases hdd
      generalize hsi : st[i] = y at hdr td
      obtain ⟨t, fl⟩ := y
      rw [hdr] at hp1 hrp
      obtain ⟨g1, g2, g3, g4⟩ := hp1
      obtain ⟨a, xs, rfl, ea, ra⟩ := td.tupI
      cases ra with | cons ra1 ra2 => cases ra2 with | cons ra2 ra3 =>
      cases ra1
      cases ra3
      refine ⟨a, _, rfl, SqT.of ea, rfl, _, _, rfl, ⟨_, _, rfl, rfl, ?_⟩⟩
      try dsimp only
      refine st_ifT (et_T (et_le (ed_var rfl (.int t)) (ed_var rfl (.int n))) (decide_eq_true g2)) fun H3 k3 => ?_
      show tSeq _ _ _ _ _
      refine run1 rfl (m1.kp0 k3) (ed_var rfl (.int t)) hd1 g1 g2 fun H4 k4 m4 => ?_
      obtain ⟨tl, mi, ht⟩ := m4.ex
      obtain ⟨dx, wv, ep, tw⟩ := mi.o.ex
      refine ⟨_, rfl, p, dx, _, rfl, ep, by rcases mi.o.tl1 with rfl | ⟨v, rfl⟩ <;> rfl, _, rfl, p, ring, M, G, A, rs, e, k, _, none, _, fl, rfl, m4, rfl, (fun _ z => nomatch z), (ra2.kp k3).kp k4, g3, fun H5 k5 m5 => ?_⟩
      have es : sufferS (runM (ringR rs e k) (t - ms1.done).toNat ms1) fl none = none := by
        unfold sufferS
        split <;> rfl
      rw [es] at m5
      exact ⟨_, _, _, rfl, ((kp.trans k3.wid).trans k4.m3).trans k5, m5, by rw [sufferM_done, runM_done]; omega, g4, hrp⟩
    · obtain ⟨o1, o2, ms1, rfl, kp, m1, hd1, hp1, hrp⟩ := hP
      have hz : st.drop ((st.map fun x => PyData.tuple [.int x.1, rowD x.2]).length) = [] := by rw [List.length_map, List.drop_length]
      rw [hz] at hp1 hrp
      rw [hrp] at q
      exact run1 rfl m1 (ed_var rfl (.int n)) hd1 hp1 (Int.le_refl _) fun H3 k3 m3 => q H3 ((k1.wid.trans kp).trans k3.m3) m3
end
end Sr
/-! Machine: its attributes. -/
namespace Sr
open PySem PySem.Spec PyProof.Rows L2
def sortI (xs : List Int) : List Int := xs.mergeSort fun a b => decide (a ≤ b)
theorem sortI_of {xs ys : List Int} (h1 : ys.Perm xs) (h2 : ys.Pairwise (· ≤ ·)) : ys = sortI xs := by
  refine List.Perm.eq_of_pairwise (le := fun a b : Int => a ≤ b) (fun a b _ _ h h' => Int.le_antisymm h h') h2 ?_ (h1.trans (List.mergeSort_perm xs _).symm)
  have := List.pairwise_mergeSort (le := fun a b : Int => decide (a ≤ b)) (fun a b c h h' => decide_eq_true (Int.le_trans (of_decide_eq_true h) (of_decide_eq_true h'))) (fun a b => by
    rcases Int.le_total a b with h | h
    · simp [h]
    · simp [h]) xs
  exact this.imp fun h => of_decide_eq_true h
section
variable {P : Program} {w : World} {K : PySem.W.Frag} {mg : Str → Option Value} {base : Heap} {f : Addr} {fd : FuncData}
def sp_MD (K : PySem.W.Frag) (C : Addr) (g : List Rec → Int → Nat → MS → PyData) : Sp := fun vs H Q _ => ∃ (p ring M G A : Addr) (rs : List Rec) (e : Int) (k : Nat) (ms : MS) (st : Option (List (Int × Flt))), vs = [.ref p] ∧ MachR K H C p ring M G A rs e k ms st ∧ ∀ v H', Kp [] H H' → TD H' v (g rs e k ms) → Q v H'
theorem ed_MD {C : Addr} {g : List Rec → Int → Nat → MS → PyData} {σ : L2.St} {H : Hp} {to : TE} {E : XK} {p ring M G A : Addr} {rs : List Rec} {e : Int} {k : Nat} {ms : MS} {st : Option (List (Int × Flt))} (ho : EvV to σ H (.ref p)) (m : MachR K H C p ring M G A rs e k ms st) : EvD (tProp C (sp_MD K C g) [] E to) σ H (g rs e k ms) := fun H1 k1 Q q =>
  ho H1 k1 _ fun H2 k2 => by
    have m2 := m.kp0 (k1.trans k2)
    obtain ⟨tl, mi, _⟩ := m2.ex
    obtain ⟨dx, w, ep, _⟩ := mi.o.ex
    exact ⟨p, dx, _, rfl, ep, p, ring, M, G, A, rs, e, k, ms, st, rfl, m2, fun v H3 k3 t => q v H3 (k2.trans k3) t⟩
def memD (ms : MS) : PyData := .tuple (ms.mem.map PyData.int)
def regD (ms : MS) : PyData := .tuple (ms.reg.map PyData.int)
def affD (ms : MS) : PyData := .tuple ((sortI ms.aff).map PyData.int)
/-- a field of a machine -/
theorem mfield {H : Hp} {C p ring M G A : Addr} {rs : List Rec} {e : Int} {k : Nat} {ms : MS} {tl : Fs} (m : MachO K H C p ring M G A rs e k ms tl) : ∃ dx w, H p = some (.ins C dx (mfs ring w M G A ms tl)) ∧ List.lookup ("ring_executed" : Str) (mfs ring w M G A ms tl) = some (V.ref ring) ∧ List.lookup ("memory_words" : Str) (mfs ring w M G A ms tl) = some (V.ref M) ∧ List.lookup ("register_words" : Str) (mfs ring w M G A ms tl) = some (V.ref G) ∧ List.lookup ("next_row" : Str) (mfs ring w M G A ms tl) = some (V.int ms.row) ∧ List.lookup ("rows_done" : Str) (mfs ring w M G A ms tl) = some (V.int ms.done) ∧ List.lookup ("faults_done" : Str) (mfs ring w M G A ms tl) = some (V.int ms.cnt) ∧ List.lookup ("copies_affected" : Str) (mfs ring w M G A ms tl) = some (V.ref A) := by
  obtain ⟨dx, w, ep, tw⟩ := m.ex
  refine ⟨dx, w, ep, ?_⟩
  rcases m.tl1 with rfl | ⟨v, rfl⟩ <;> exact ⟨rfl, rfl, rfl, rfl, rfl, rfl, rfl⟩
abbrev s_Machine_memory : Stmt := inClass (top 73) 1
theorem sc_Machine_memory : FnScope ["self"] ["self"] (defScope s_Machine_memory) := ⟨rfl, rfl, rfl, by decide +kernel, rfl, by decide +kernel, by decide +kernel⟩
theorem ok_memory {C : Addr} (F : Fun K "memory" "Machine.memory" s_Machine_memory f fd) (T : Txt K mg) (R : MachT K C) : FnOk P w K mg base CX0 1 f fd ["self"] (sp_MD K C fun _ _ _ ms => memD ms) := by
  refine F.ok sc_Machine_memory (fun vs H Q E h => ?_) (fun cdv A0 outer s H vs Q E hr h => ?_)
  · obtain ⟨p, ring, M, G, A, rs, e, k, ms, st, rfl, _⟩ := h
    rfl
  · obtain ⟨p, ring, M, G, A, rs, e, k, ms, st, rfl, m, q⟩ := h
    refine ⟨_, (pss_one (ps_ret (pe_callTy call_tuple_of rfl T.f_tuple (by decide +kernel) (pa_cons (pe_fldK (K := K) (pv 0) rfl) pa_nil)))), ?_⟩
    obtain ⟨tl, mi, _⟩ := m.ex
    obtain ⟨dx, w, ep, l1, l2, l3, l4, l5, l6, l7⟩ := mfield mi.o
    exact sd_ret (ed_tupleL (el0_v (ev_fld (ev_var rfl) ep R.cl R.na_memory_words l2) mi.o.hM (.ints _))) fun v H1 k1 t1 => q v H1 k1 t1
abbrev s_Machine_registers : Stmt := inClass (top 73) 2
theorem sc_Machine_registers : FnScope ["self"] ["self"] (defScope s_Machine_registers) := ⟨rfl, rfl, rfl, by decide +kernel, rfl, by decide +kernel, by decide +kernel⟩
theorem ok_registers {C : Addr} (F : Fun K "registers" "Machine.registers" s_Machine_registers f fd) (T : Txt K mg) (R : MachT K C) : FnOk P w K mg base CX0 1 f fd ["self"] (sp_MD K C fun _ _ _ ms => regD ms) := by
  refine F.ok sc_Machine_registers (fun vs H Q E h => ?_) (fun cdv A0 outer s H vs Q E hr h => ?_)
  · obtain ⟨p, ring, M, G, A, rs, e, k, ms, st, rfl, _⟩ := h
    rfl
  · obtain ⟨p, ring, M, G, A, rs, e, k, ms, st, rfl, m, q⟩ := h
    refine ⟨_, (pss_one (ps_ret (pe_callTy call_tuple_of rfl T.f_tuple (by decide +kernel) (pa_cons (pe_fldK (K := K) (pv 0) rfl) pa_nil)))), ?_⟩
    obtain ⟨tl, mi, _⟩ := m.ex
    obtain ⟨dx, w, ep, l1, l2, l3, l4, l5, l6, l7⟩ := mfield mi.o
    exact sd_ret (ed_tupleL (el0_v (ev_fld (ev_var rfl) ep R.cl R.na_register_words l3) mi.o.hG (.ints _))) fun v H1 k1 t1 => q v H1 k1 t1
abbrev s_Machine_executed : Stmt := inClass (top 73) 3
theorem sc_Machine_executed : FnScope ["self"] ["self"] (defScope s_Machine_executed) := ⟨rfl, rfl, rfl, by decide +kernel, rfl, by decide +kernel, by decide +kernel⟩
theorem ok_executed {C : Addr} (F : Fun K "executed" "Machine.executed" s_Machine_executed f fd) (R : MachT K C) : FnOk P w K mg base CX0 1 f fd ["self"] (sp_MD K C fun _ _ _ ms => .int ms.done) := by
  refine F.ok sc_Machine_executed (fun vs H Q E h => ?_) (fun cdv A0 outer s H vs Q E hr h => ?_)
  · obtain ⟨p, ring, M, G, A, rs, e, k, ms, st, rfl, _⟩ := h
    rfl
  · obtain ⟨p, ring, M, G, A, rs, e, k, ms, st, rfl, m, q⟩ := h
    refine ⟨_, (pss_one (ps_ret (pe_fldK (K := K) (pv 0) rfl))), ?_⟩
    obtain ⟨tl, mi, _⟩ := m.ex
    obtain ⟨dx, w, ep, l1, l2, l3, l4, l5, l6, l7⟩ := mfield mi.o
    exact sd_ret (ed_v (ev_fld (ev_var rfl) ep R.cl R.na_rows_done l5) (.int _)) fun v H1 k1 t1 => q v H1 k1 t1
abbrev s_Machine_fault_count : Stmt := inClass (top 73) 4
theorem sc_Machine_fault_count : FnScope ["self"] ["self"] (defScope s_Machine_fault_count) := ⟨rfl, rfl, rfl, by decide +kernel, rfl, by decide +kernel, by decide +kernel⟩
theorem ok_fault_count {C : Addr} (F : Fun K "fault_count" "Machine.fault_count" s_Machine_fault_count f fd) (R : MachT K C) : FnOk P w K mg base CX0 1 f fd ["self"] (sp_MD K C fun _ _ _ ms => .int ms.cnt) := by
  refine F.ok sc_Machine_fault_count (fun vs H Q E h => ?_) (fun cdv A0 outer s H vs Q E hr h => ?_)
  · obtain ⟨p, ring, M, G, A, rs, e, k, ms, st, rfl, _⟩ := h
    rfl
  · obtain ⟨p, ring, M, G, A, rs, e, k, ms, st, rfl, m, q⟩ := h
    refine ⟨_, (pss_one (ps_ret (pe_fldK (K := K) (pv 0) rfl))), ?_⟩
    obtain ⟨tl, mi, _⟩ := m.ex
    obtain ⟨dx, w, ep, l1, l2, l3, l4, l5, l6, l7⟩ := mfield mi.o
    exact sd_ret (ed_v (ev_fld (ev_var rfl) ep R.cl R.na_faults_done l6) (.int _)) fun v H1 k1 t1 => q v H1 k1 t1
abbrev s_Machine_row : Stmt := inClass (top 73) 7
theorem sc_Machine_row : FnScope ["self"] ["self"] (defScope s_Machine_row) := ⟨rfl, rfl, rfl, by decide +kernel, rfl, by decide +kernel, by decide +kernel⟩
theorem ok_row {C : Addr} (F : Fun K "row" "Machine.row" s_Machine_row f fd) (R : MachT K C) : FnOk P w K mg base CX0 1 f fd ["self"] (sp_MD K C fun _ _ _ ms => .int ms.row) := by
  refine F.ok sc_Machine_row (fun vs H Q E h => ?_) (fun cdv A0 outer s H vs Q E hr h => ?_)
  · obtain ⟨p, ring, M, G, A, rs, e, k, ms, st, rfl, _⟩ := h
    rfl
  · obtain ⟨p, ring, M, G, A, rs, e, k, ms, st, rfl, m, q⟩ := h
    refine ⟨_, (pss_one (ps_ret (pe_fldK (K := K) (pv 0) rfl))), ?_⟩
    obtain ⟨tl, mi, _⟩ := m.ex
    obtain ⟨dx, w, ep, l1, l2, l3, l4, l5, l6, l7⟩ := mfield mi.o
    exact sd_ret (ed_v (ev_fld (ev_var rfl) ep R.cl R.na_next_row l4) (.int _)) fun v H1 k1 t1 => q v H1 k1 t1
abbrev s_Machine_affected : Stmt := inClass (top 73) 5
theorem sc_Machine_affected : FnScope ["self"] ["self"] (defScope s_Machine_affected) := ⟨rfl, rfl, rfl, by decide +kernel, rfl, by decide +kernel, by decide +kernel⟩
theorem ok_affected {C : Addr} (F : Fun K "affected" "Machine.affected" s_Machine_affected f fd) (T : Txt K mg) (R : MachT K C) : FnOk P w K mg base CX0 1 f fd ["self"] (sp_MD K C fun _ _ _ ms => affD ms) := by
  refine F.ok sc_Machine_affected (fun vs H Q E h => ?_) (fun cdv A0 outer s H vs Q E hr h => ?_)
  · obtain ⟨p, ring, M, G, A, rs, e, k, ms, st, rfl, _⟩ := h
    rfl
  · obtain ⟨p, ring, M, G, A, rs, e, k, ms, st, rfl, m, q⟩ := h
    refine ⟨_, (pss_one (ps_ret (pe_callTy call_tuple_of rfl T.f_tuple (by decide +kernel) (pa_cons (pe_callB (call_sortedDI rfl) rfl T.f_sorted (by decide +kernel) (pa_cons (pe_fldK (K := K) (pv 0) rfl) pa_nil)) pa_nil)))), ?_⟩
    obtain ⟨tl, mi, _⟩ := m.ex
    obtain ⟨dx, w, ep, l1, l2, l3, l4, l5, l6, l7⟩ := mfield mi.o
    refine sd_ret (d := affD ms) (ed_tupleL fun H1 k1 Q1 q1 => ?_) fun v H1 k1 t1 => q v H1 k1 t1
    refine (ev_fld (K := K) (ev_var rfl) ep R.cl R.na_copies_affected l7) H1 k1 _ fun H2 k2 => ?_
    refine ⟨A, _, ms.aff, rfl, .of ((k1.trans k2).get mi.o.hA), by unfold affK; rw [List.map_map]; rfl, Nat.lt_of_le_of_lt (aff_len m.aff) (by decide), fun ys b h1 h2 hb => ?_⟩
    rw [sortI_of h1 h2]
    exact q1 b _ _ (k2.newT hb) upd_same (.ints _)
abbrev s_Recorder_story : Stmt := inClass (top 74) 1
theorem sc_Recorder_story : FnScope ["self"] ["self"] (defScope s_Recorder_story) := ⟨rfl, rfl, rfl, by decide +kernel, rfl, by decide +kernel, by decide +kernel⟩
def sp_story (K : PySem.W.Frag) (C : Addr) : Sp := fun vs H Q _ => ∃ (p ring M G A : Addr) (rs : List Rec) (e : Int) (k : Nat) (ms : MS) (st : List (Int × Flt)), vs = [.ref p] ∧ MachR K H C p ring M G A rs e k ms (some st) ∧ ∀ v, TD H v (storyD st) → Q v H
theorem ok_story {C : Addr} (F : Fun K "story" "Recorder.story" s_Recorder_story f fd) (R : MachT K C) (na : NoAttr K C "faults_noted") : FnOk P w K mg base CX0 1 f fd ["self"] (sp_story K C) := by
  refine F.ok sc_Recorder_story (fun vs H Q E h => ?_) (fun cdv A0 outer s H vs Q E hr h => ?_)
  · obtain ⟨p, ring, M, G, A, rs, e, k, ms, st, rfl, _⟩ := h
    rfl
  · obtain ⟨p, ring, M, G, A, rs, e, k, ms, st, rfl, m, q⟩ := h
    refine ⟨_, (pss_one (ps_ret (pe_fldK (K := K) (pv 0) rfl))), ?_⟩
    obtain ⟨tl, mi, v, rfl, tv⟩ := m.ex
    obtain ⟨dx, w, ep, tw⟩ := mi.o.ex
    exact ⟨_, rfl, p, C, dx, _, v, rfl, ep, R.cl, na, rfl, q v tv⟩
end
end Sr
/-! A method whose first statement is super().m(..). -/
namespace Sr
open PySem PySem.Spec PyProof.Rows L2 NdefX
abbrev nfS (x qual : Str) (st : Stmt) (cc cda : Addr) : NF := { name := x, qual := qual, params := defArgs st, body := defBody st, scope := defScope st, cl := [("__class__", cc)], c := cda }
structure FunC (P : Program) (K : PySem.W.Frag) (x qual : Str) (st : Stmt) (m : Str) (D f f2 : Addr) (fd : FuncData) (cc cda : Addr) : Prop where
  ex : ∃ (oc : Value) (od : Option Addr) (kV doc pm : Value) (an : Option Addr) (ct : Value) (osl : Array (Option Value)), fd = PySem.W.fnX x qual (defArgs st) (defBody st) (defScope st) [("__class__", cc)] .none kV doc pm an (.ref cda) ct ∧ K.lookup f = some ⟨oc, od, .func fd, osl⟩
  code : PySem.W.codeIn K (.ref cda) qual = true
  cf : ∃ (ccl : Value) (cdd : Option Addr) (vs : Array Value) (ccs : Array (Option Value)) (file : Str) (tf : Tok), K.lookup cda = some ⟨ccl, cdd, .fields vs, ccs⟩ ∧ vs[2]? = some (.str file tf) ∧ ((P.main.file : Str) == file) = true
  cell : ∃ (cl : Value) (cld : Option Addr) (csl : Array (Option Value)), K.lookup cc = some ⟨cl, cld, .cell (some (.ref D)), csl⟩
  any : PySem.W.nsIn K cStatics "thirdparty.any" = some none
  cls : ∃ cd, PySem.W.clsIn K D = some cd
  sub : PySem.W.mroIn K D (.ref D) = some true
  sup : PySem.W.ks_superIn K D D m = some (some (.ref f2))
  fi : PySem.W.fnIn K f2 = true
  ty : PySem.W.typeIn K (.ref f2) = some (.type "function")
  top : (P.main.scope.names.lookup ("super" : Str)).isSome = false
section
variable {P : Program} {w : World} {K : PySem.W.Frag} {mg : Str → Option Value} {base : Heap} {k : Nat} {x qual m : Str} {st : Stmt} {D f f2 cc cda : Addr} {fd fd2 : FuncData} {N ps ps2 : List Str} {sp sp2 : Sp} {e : Expr} {es : List Expr} {rest : List Stmt} {p0 p1 apos pos pos' : Pos}
theorem fn_sup (F : FunC P K x qual st m D f f2 fd cc cda) (S : NScope N ps ["__class__"] (defScope st)) (len : ∀ vs H Q E, sp vs H Q E → vs.length = ps.length)
    (hms : mg "super" = none) (hks : (defScope st).names.lookup ("super" : Str) = some .globalImplicit) (hkc : (defScope st).names.lookup ("__class__" : Str) = some .free)
    (hp : ((defArgs st).posonlyargs ++ (defArgs st).args).head?.map (·.arg) = some "self") (hN : N[0]? = some ("self" : Str)) (hself : (defScope st).names.lookup ("self" : Str) = some .local) (hat : (m == ("__class__" : Str)) = false) (hco : (defScope st).isCoroutine = false) (hgen : (defScope st).isGenerator = false)
    (G : FnOk P w K mg base CX0 k f2 fd2 ps2 sp2) (B2 : Binds K fd2 ps2 [])
    (hb : defBody st = .Expr (.Call (.Attribute (.Call (.Name "super" p0) [] [] p1) m apos) (e :: es) [] pos) pos' :: rest)
    (hbody : ∀ (A : Around) (outer : List Env) (s : Shared) (H : Hp) (vs : List V) (Q : VK) (E : XK), Room k (A.deeper (envF (nfS x qual st cc cda) f s.heap.objs.size)) → sp vs H Q E →
      ∃ (p dx : Addr) (fs : List (Str × V)) (r : List V) (t : TA) (tr : TS), vs = .ref p :: r ∧ H p = some (.ins D dx fs) ∧ PA (ncx CX0 P w K mg base N (nfS x qual st cc cda) f A outer s H E) (e :: es) t ∧ PSs (ncx CX0 P w K mg base N (nfS x qual st cc cda) f A outer s H E).nox rest tr ∧
        (starEach (e :: es) (envF (nfS x qual st cc cda) f s.heap.objs.size) = (false, eval e (envF (nfS x qual st cc cda) f s.heap.objs.size)) :: starEach es (envF (nfS x qual st cc cda) f s.heap.objs.size)) ∧ ((backTo pos (starEach es (envF (nfS x qual st cc cda) f s.heap.objs.size))).any (·.1) = false) ∧
        (interactive (envF (nfS x qual st cc cda) f s.heap.objs.size) = false) ∧ (swapsWith (.Call (.Attribute (.Call (.Name "super" p0) [] [] p1) m apos) (e :: es) [] pos) none pos'.line (envF (nfS x qual st cc cda) f s.heap.objs.size) = pure false) ∧
        (∃ pl : Sem Bool, eval (.Call (.Attribute (.Call (.Name "super" p0) [] [] p1) m apos) (e :: es) [] pos) (envF (nfS x qual st cc cda) f s.heap.objs.size) = (do
          let ov ← attributeBase (.Call (.Name "super" p0) [] [] p1) m (envF (nfS x qual st cc cda) f s.heap.objs.size) (eval (.Call (.Name "super" p0) [] [] p1) (envF (nfS x qual st cc cda) f s.heap.objs.size))
          standAt apos.atName
          let (g, first) ← holding [ov] (getMethod ov m pl)
          callWith pos g first (backTo pos (starEach (e :: es) (envF (nfS x qual st cc cda) f s.heap.objs.size))) [])) ∧
        t (startF N vs [some (.ref D)]) H fun ys H1 => sp2 (.ref p :: (ys ++ [])) H1 (fun _ H2 => tr { nx := fun _ H' => Q .non H', rt := Q } (startF N vs [some (.ref D)]) H2) E0) :
    FnOk P w K mg base CX0 (k + 1) f fd ps sp := by
  obtain ⟨oc, od, kV, doc, pm, an, ct, osl, rfl, lk⟩ := F.ex
  refine ⟨len, fun A outer s H args us vs Q E hr e0 bnd rv hsp => ?_⟩
  have size := len vs H Q E hsp
  have KX : K.In s.heap := e0.mod.kin.keeps fun b o e => (e0.bs b o e).1
  obtain ⟨ccl, cdd, cvs, ccs, file, tf, lcode, hvs, hfile⟩ := F.cf
  obtain ⟨cl, cld, csl, lcell⟩ := F.cell
  obtain ⟨cdD, hD⟩ := F.cls
  have hD0 := hD
  refine ks_codeAny_call_defAt (fd := PySem.W.fnX x qual (defArgs st) (defBody st) (defScope st) [("__class__", cc)] .none kV doc pm an (.ref cda) ct) (body := defBody st) (binds := ps.zip us) hr.depth (KX _ _ lk) rfl (e0.mod.nolimit.keeps fun b o e => (e0.bs b o e).1) (PySem.W.codeRec_of KX F.code) rfl bnd
    S.nocell (fun y hy => S.par _ (List.of_mem_zip hy).1) (fun h₁ hns kp => ?_) hco hgen S.kind
  have C : CellsAt (nfS x qual st cc cda).cl ["__class__"] [some (.ref D)] s.heap H := by
    refine ⟨rfl, fun y c hc => ?_, fun a b c ha hb => ?_, fun i y hi => ?_⟩
    · have hc' : List.lookup y [(("__class__" : Str), cc)] = some c := hc
      have : c = cc := by
        unfold List.lookup at hc'
        split at hc'
        · exact (Option.some.inj hc').symm
        · cases hc'
      subst this
      exact ⟨(e0.bs _ _ (e0.mod.kin _ _ lcell)).2, _, _, KX _ _ lcell, rfl⟩
    · have one : ∀ {y : Str}, List.lookup y [(("__class__" : Str), cc)] = some c → y = "__class__" := fun {y} h => by
        unfold List.lookup at h
        split at h
        · rename_i e
          exact eq_of_beq e
        · cases h
      rw [one ha, one hb]
    · cases i with
      | zero =>
        cases hi
        exact ⟨cc, rfl, fun v hv => by cases hv; exact ⟨_, rfl, _, KX _ _ lcell, rfl⟩⟩
      | succ i => cases hi
  obtain ⟨p, dx, fs, r, t, tr, rfl, hpd, hpa, hps, q1, q2, q3, q4, ⟨pl, q5⟩, hq⟩ := hbody A outer s H vs Q E (hr.deeper _) hsp
  have I := inv_startN (CX := CX0) (P := P) (w := w) (F := nfS x qual st cc cda) (f := f) (E := E) (tk := s.toks + (ps.zip us).length) S hr.hd e0 size rv C hns kp
  rw [hb]
  refine ks_wpAt_execs_cons (ks_wpAt_Expr_any (ks_wpAt_MethodCall (pl := pl) ?_ q5) q3 q4)
  have X1 : K.In h₁ := I.kIn
  obtain ⟨ar, har, hself'⟩ : ∃ ar, ((defArgs st).posonlyargs ++ (defArgs st).args).head? = some ar ∧ ar.arg = "self" := by
    cases e : ((defArgs st).posonlyargs ++ (defArgs st).args).head? with
    | none => rw [e] at hp; cases hp
    | some ar => rw [e] at hp; exact ⟨ar, rfl, Option.some.inj hp⟩
  obtain ⟨oD, hD1, hD2⟩ : ∃ oD, h₁.get? D = some oD ∧ oD.data = .cls cdD := by
    unfold PySem.W.clsIn at hD
    split at hD
    · rename_i c d cd' sl ho
      cases hD
      exact ⟨_, X1 _ _ ho, rfl⟩
    · cases hD
  obtain ⟨mA, OM, _⟩ := ins_get I.hok hpd
  obtain ⟨odx, J, _⟩ := OM.look
  have hcc1 : PySem.W.clsIn K D = some cdD := hD0
  refine ks_wpAt_super_base (env := envF (nfS x qual st cc cda) f s.heap.objs.size) hks hkc hat rfl (X1 _ _ lk) rfl har rfl (X1 _ _ lcode) rfl hvs hfile F.top ?_
  obtain ⟨mb, b1, b2⟩ := I.mod.blt
  refine PySem.W.ks_loadName_global S.kind hks (Calls.loadGlobal_builtin (by rw [show (envF (nfS x qual st cc cda) f s.heap.objs.size).globals = _ from I.ok.glob]; exact I.mod.glob.keeps I.bk) hms (by rw [show (envF (nfS x qual st cc cda) f s.heap.objs.size).builtins = _ from I.ok.blt]; exact b1.keeps I.bk) ((b2 _ (by decide)).trans (show bootBuiltins "super" = some (.type "super") by decide +kernel)) ⟨rfl, ?_⟩)
  refine wpAny_loadName_free (c := cc) S.kind hkc rfl ⟨_, X1 _ _ lcell, rfl⟩ ?_
  rw [hself']
  obtain ⟨mm, hn, hlook⟩ := I.loc
  obtain ⟨u, ru, hlk⟩ := hlook 0 "self" (.ref p) hN rfl (.inl hself)
  cases ru
  rcases hlk with ⟨_, hm⟩ | ⟨hc, _⟩
  rotate_left
  · rcases hc with hc | hc
    · exact absurd (hself.symm.trans hc) (by decide)
    · exact absurd (hself.symm.trans hc) (by decide)
  refine wpAny_loadName_local S.kind hself hn hm ?_
  refine ks_wpAny_isType_cls hD1 hD2 ⟨rfl, ?_⟩
  refine ks_wpAny_call_super hD1 hD2 J.at_ J.cls (fun c e => ?_) (PySem.W.looks_mroIn X1 F.sub) (fun h' e' k' => ?_)
  · have := J.no
    unfold PySem.W.notCls at this
    rw [e] at this
    exact Bool.noConfusion this
  have I2 := ClX.pin_new (t' := s.toks + (ps.zip us).length) I k' (Nat.le_refl _) e' (fun v z => by cases z)
  have X2 : K.In h' := I2.kIn
  have hsup := F.sup
  unfold PySem.W.ks_superIn at hsup
  rw [hcc1] at hsup
  obtain ⟨of, hof, hofc⟩ : ∃ of, h'.get? f2 = some of ∧ of.cls = .type "function" := by
    have ht' : (K.lookup f2).map (·.cls) = some (.type "function") := F.ty
    cases z : K.lookup f2 with
    | none => rw [z] at ht'; cases ht'
    | some of => rw [z] at ht'; exact ⟨of, X2 _ _ z, Option.some.inj ht'⟩
  refine ks_wpAny_getMethod_super e' (PySem.W.looks_opaque X2 F.any) (l₀ := cdD.mro) ?_ rfl X2 hsup hof hofc (PySem.W.ks_ne X1 J hcc1) hat ?_
  · exact fun A Q E s k q => wpAny_bind ((PySem.W.looks_clsIn X2 hcc1) A _ E s k (wpAny_pure q))
  have I3 := ClX.pin_new (t' := s.toks + (ps.zip us).length + 1) I2 (o := PySem.W.methodObj (.ref f2) (.ref p)) (fun b o e => Heap.get?_push_of_some _ e) (Nat.le_refl _) (Heap.get?_push_at rfl rfl) (fun v z => by cases z)
  refine ClX.callwith_cm I3 (ClX.base_none I2 (Nat.le_refl _)) F.fi (thn (hpa.run pos _ _ _ H _ I3 hq) fun us4 s4 ⟨vs4, H4, I4, rv4, q4'⟩ => ⟨⟨ClX.pin_at I4, I4.kIn⟩, ?_⟩) q1 q2
  have F2 := G.raw B2 (dvs := []) .nil
  refine thn (ClX.run_cm F2 (hr.deeper _) pass0 I4 rv4 q4') fun u5 s5 ⟨v5, H5, I5, r5, q5⟩ => ?_
  refine wpAt_of_wpAny (wpAny_mono (hps.nox.run [] s5 _ H5 _ (ClX.unpin I5) q5) (fun fl s' hs => ?_) fun _ _ z => z)
  cases fl with
  | ret u' =>
    obtain ⟨v', σ', H', J', rv', q⟩ := hs
    exact ⟨v', H', J'.os, J'.bare, J'.base, J'.hok, rv', q⟩
  | next =>
    obtain ⟨σ', H', J', q⟩ := hs
    exact ⟨.non, H', J'.os, J'.bare, J'.base, J'.hok, rfl, q⟩
  | brk =>
    obtain ⟨_, _, _, q⟩ := hs
    exact q.elim
  | cont =>
    obtain ⟨_, _, _, q⟩ := hs
    exact q.elim
end
end Sr
/-! The recorder. -/
namespace Sr
open PySem PySem.Spec PyProof.Rows L2 NdefX
section
variable {P : Program} {w : World} {K : PySem.W.Frag} {mg : Str → Option Value} {base : Heap} {f f2 cc cda : Addr} {fd fd2 : FuncData}
theorem ed_catA {σ : L2.St} {H : Hp} {ta tb : TE} {ds es : List PyData} (ha : EvD ta σ H (.tuple ds)) (hb : EvD tb σ H (.tuple es)) (hz : ds.length + es.length ≤ 100000) : EvD (tOp (rCatA K) ta tb) σ H (.tuple (ds ++ es)) := fun H1 k Q q =>
  ha H1 k _ fun v H2 k2 t2 => hb H2 (k.trans k2) _ fun u H3 k3 t3 => by
    obtain ⟨a, vs, rfl, ea, ra⟩ := (t2.kp k3).tupI
    obtain ⟨b, us, rfl, eb, rb⟩ := t3.tupI
    refine ⟨a, b, vs, us, rfl, rfl, SqT.of ea, SqT.of eb, le_line (by rw [ra.len, rb.len]; exact hz), fun z => ?_, fun _ z => ?_, fun _ _ p hp => q _ _ ((k2.trans k3).newT hp) (.tup upd_same ((ra.app rb).kp (Kp.new (S := []) hp)))⟩
    · subst z
      cases ra
      rw [List.nil_append] at q
      exact q _ _ (k2.trans k3) (.tup eb rb)
    · subst z
      cases rb
      rw [List.append_nil] at q
      exact q _ _ (k2.trans k3) (.tup ea ra)
abbrev s_Recorder_init : Stmt := inClass (top 74) 0
abbrev s_Recorder_note : Stmt := inClass (top 74) 2
theorem ns_Recorder_init : NScope ["self", "ring", "first", "__class__"] ["self", "ring", "first"] ["__class__"] (defScope s_Recorder_init) := nscope_by (by decide +kernel)
theorem ns_Recorder_note : NScope ["self", "fault", "__class__"] ["self", "fault"] ["__class__"] (defScope s_Recorder_note) := nscope_by (by decide +kernel)
def sp_MI (K : PySem.W.Frag) (C : Addr) (st0 : Option (List (Int × Flt))) : Sp := fun vs H Q _ => ∃ (p dx ring : Addr) (v : V) (rs : List Rec) (e : Int) (k : Nat) (ws : List Int), vs = [.ref p, .ref ring, v] ∧ H p = some (.ins C dx []) ∧ RingO H (cR K) ring rs e k ∧ RingG rs e k ∧ TD H v (.tuple (ws.map PyData.int)) ∧ ws.length = rs.length ∧ (∀ x ∈ ws, wOk x) ∧
  ∀ M G A H', Kp [p] H H' → H M = none → H G = none → H A = none → MachR K H' C p ring M G A rs e k (ms0 k ws) st0 → Q .non H'
theorem mi_plain {C : Addr} {k : Nat} {ps : List Str} (h : FnOk P w K mg base CX0 k f fd ps (sp_Machine_init K C)) : FnOk P w K mg base CX0 k f fd ps (sp_MI K C none) := h.imp fun vs H Q E ⟨p, dx, ring, v, rs, e, k, ws, ev, h1, h2, h3, h4, h5, h6, q⟩ =>
  ⟨p, dx, ring, v, rs, e, k, ws, ev, h1, h2, h3, h4, h5, h6, fun M G A H' kp hM hG hA m => q M G A H' kp hM hG hA ⟨⟨[], m, rfl⟩, ⟨List.nodup_nil, fun _ z => nomatch z⟩, fun _ z => nomatch z⟩⟩
theorem ok_Recorder_init {C : Addr} (F : FunC P K "__init__" "Recorder.__init__" s_Recorder_init "__init__" C f f2 fd cc cda) (T : Txt K mg) (R : MachT K C) (na : NoAttr K C "faults_noted") (G : FnOk P w K mg base CX0 3 f2 fd2 ["self", "ring", "first"] (sp_Machine_init K C)) (B2 : Binds K fd2 ["self", "ring", "first"] []) :
    FnOk P w K mg base CX0 4 f fd ["self", "ring", "first"] (sp_MI K C (some [])) := by
  refine fn_sup F ns_Recorder_init (fun vs H Q E h => ?_) T.f_super rfl rfl rfl rfl rfl rfl rfl rfl G B2 rfl fun A0 outer s H vs Q E hr h => ?_
  · obtain ⟨p, dx, ring, v, rs, e, k, ws, rfl, _⟩ := h
    rfl
  · obtain ⟨p, dx, ring, v, rs, e, k, ws, rfl, hp, ro_, hg, tv, hw, hwk, q⟩ := h
    refine ⟨p, dx, [], _, _, _, rfl, hp, pa_cons (pv 1) (pa_cons (pv 2) pa_nil), pss_one (ps_fld (pv 0) (pe_tup pa_nil) rfl), rfl, rfl, rfl, rfl, ⟨_, rfl⟩, ?_⟩
    refine ⟨_, rfl, _, rfl, p, dx, ring, v, rs, e, k, ws, rfl, hp, ro_, hg, tv, hw, hwk, fun M G A H1 k1 hM hG hA m => ?_⟩
    obtain ⟨dx1, w1, ep, tw⟩ := m.o.ex
    refine sf_d (d := .tuple []) (ed_tup eds_nil) (ev_var rfl) ep R.cl na fun v2 H2 k2 t2 e2 => ?_
    refine q M G A H2 (k1.trans k2) hM hG hA ⟨⟨_, ⟨m.o.atP k2 (tl' := [("faults_noted", v2)]) e2 (tw.kp k2) rfl rfl rfl (.inr ⟨v2, rfl⟩), m.g, m.ok⟩, v2, rfl, t2⟩, ⟨List.nodup_nil, fun _ z => nomatch z⟩, fun s hs => by cases hs; exact Nat.zero_le _⟩
theorem ok_Recorder_note {C : Addr} (F : FunC P K "note" "Recorder.note" s_Recorder_note "note" C f f2 fd cc cda) (T : Txt K mg) (R : MachT K C) (na : NoAttr K C "faults_noted") (G : FnOk P w K mg base CX0 5 f2 fd2 ["self", "fault"] (sp_note0 K C)) (B2 : Binds K fd2 ["self", "fault"] []) :
    FnOk P w K mg base CX0 6 f fd ["self", "fault"] (sp_note K C true) := by
  refine fn_sup F ns_Recorder_note (fun vs H Q E h => ?_) T.f_super rfl rfl rfl rfl rfl rfl rfl rfl G B2 rfl fun A0 outer s H vs Q E hr h => ?_
  · obtain ⟨p, ring, M, G, A, rs, e, k, ms, st, v, fl, rfl, _⟩ := h
    rfl
  · obtain ⟨p, ring, M, G, A, rs, e, k, ms, st, v, fl, rfl, m, hst, hl, tv, hf, q⟩ := h
    cases st with
    | none => cases hst
    | some st =>
    obtain ⟨tl, mi, v0, rfl, tv0⟩ := m.ex
    obtain ⟨dx, w0, ep, tw⟩ := mi.o.ex
    refine ⟨p, dx, _, _, _, _, rfl, ep, pa_cons (pv 1) pa_nil, pss_one (ps_fld (pv 0) (pe_op op_catA (pe_fldK (K := K) (pv 0) rfl) (pe_tup (pa_cons (pe_tup (pa_cons (pe_fldK (K := K) (pv 0) rfl) (pa_cons (pv 1) pa_nil))) pa_nil))) rfl), rfl, rfl, rfl, rfl, ⟨_, rfl⟩, ?_⟩
    refine ⟨_, rfl, p, ring, M, G, A, rs, e, k, ms, _, v, fl, rfl, mi, aff_len m.aff, tv, hf, fun H1 k1 m1 => ?_⟩
    obtain ⟨dx1, w1, ep1, tw1⟩ := m1.o.ex
    have hl1 := hl st rfl
    refine sf_d (d := storyD (st ++ [(ms.done, fl)])) ?_ (ev_var rfl) ep1 R.cl na fun v2 H2 k2 t2 e2 => ?_
    · unfold storyD
      rw [List.map_append]
      exact ed_catA (ed_v (ev_fld (ev_var rfl) ep1 R.cl na rfl) (tv0.kp k1)) (ed_tup (eds_cons (ed_tup (eds_cons (ed_v (ev_fld (ev_var rfl) ep1 R.cl R.na_rows_done rfl) (.int ms.done)) (eds_cons (ed_var rfl (tv.kp k1)) eds_nil))) eds_nil)) (by simp; omega)
    · refine q H2 (k1.trans (k2.mono fun b hb => by rw [List.mem_singleton.mp hb]; exact List.mem_cons_self)) ⟨⟨_, ⟨m1.o.atP k2 (tl' := [("faults_noted", v2)]) e2 (tw1.kp k2) rfl rfl rfl (.inr ⟨v2, rfl⟩), m1.g, m1.ok⟩, v2, rfl, t2⟩, putA_ok m.aff (affBy_ok mi.g mi.ok.row hf), fun s hs => ?_⟩
      cases hs
      rw [List.length_append]
      simp
      omega
end
end Sr
/-! The deck of the law's draws. -/
namespace Sr
open PySem PySem.Spec PyProof.Rows L2
structure Deck (H : Hp) (d c : Addr) (n : Nat) : Prop where
  ne : c ≠ d
  ex : ∃ (cells : List Int) (mixed count : Int), H d = some (.lst [.ref c, .int mixed, .int count]) ∧ H c = some (.lst (cells.map V.int)) ∧ (0 ≤ count ∧ count ≤ n) ∧ (0 ≤ mixed ∧ mixed < 2147483587) ∧ cells.length ≤ 63
theorem Deck.kp {H H' : Hp} {d c : Addr} {n : Nat} {S : List Addr} (x : Deck H d c n) (k : Kp S H H') (h1 : d ∉ S) (h2 : c ∉ S) : Deck H' d c n := by
  obtain ⟨cells, mixed, count, e1, e2, r⟩ := x.ex
  exact ⟨x.ne, cells, mixed, count, k.oth d _ h1 e1, k.oth c _ h2 e2, r⟩
theorem Deck.kp0 {H H' : Hp} {d c : Addr} {n : Nat} (x : Deck H d c n) (k : Kp [] H H') : Deck H' d c n := x.kp k (fun z => nomatch z) fun z => nomatch z
theorem Deck.up {H : Hp} {d c : Addr} {n m : Nat} (x : Deck H d c n) (h : n ≤ m) : Deck H d c m := by
  obtain ⟨cells, mixed, count, e1, e2, e3, r⟩ := x.ex
  exact ⟨x.ne, cells, mixed, count, e1, e2, ⟨e3.1, by omega⟩, r⟩
theorem Deck.at {H : Hp} {d c : Addr} {n : Nat} (x : Deck H d c n) : (∃ o, H d = some o) ∧ ∃ o, H c = some o := by
  obtain ⟨cells, mixed, count, e1, e2, r⟩ := x.ex
  exact ⟨⟨_, e1⟩, _, e2⟩
section
variable {K : PySem.W.Frag} {σ : L2.St} {H : Hp} {ta tb te tc : TE} {t : TA} {ds es : List PyData} {Q : VK}
theorem op_s {r : R2} (h : ta σ H fun x H1 => tb σ H1 fun y H2 => r x y H2 Q) : tOp r ta tb σ H Q := h
theorem et_someI {xs : List Int} (ha : EvL0 ta σ H (xs.map PyData.int)) : EvT (tTest (tOp (rNeD K) ta (tLst tNil))) σ H (!decide (xs = [])) := by
  have h := et_neL0 (K := K) (n := 1) ha (EvL.l0 (el_lst eds_nil (Nat.zero_le _))) (Shp.lst (Shp.ints xs)) (Shp.lst fun d m => nomatch m) (by decide)
  have e : PyData.eqv (.list (xs.map PyData.int)) (.list []) = decide (xs = []) := by
    show PyData.eqvAll (xs.map PyData.int) [] = _
    exact eqv_ints xs []
  rw [e] at h
  exact h
end
section
variable {P : Program} {w : World} {K : PySem.W.Frag} {mg : Str → Option Value} {base : Heap} {f : Addr} {fd : FuncData}
abbrev s__law_deck : Stmt := top 76
theorem sc__law_deck : FnScope ["_law_script", "_law_cells", "_law_mixed", "_law_cell"] ["_law_script"] (defScope s__law_deck) := ⟨rfl, rfl, rfl, by decide +kernel, rfl, by decide +kernel, by decide +kernel⟩
def sp__law_deck (K : PySem.W.Frag) : Sp := fun vs H Q _ => ∃ (l : Addr) (xs : List Int), vs = [.ref l] ∧ SqL K H l (xs.map V.int) ∧ ∀ d c H', Kp [] H H' → H d = none → H c = none → Deck H' d c 0 → Q (.ref d) H'
abbrev s__law_draw : Stmt := top 77
theorem sc__law_draw : FnScope ["_law_deck_here", "_law_many", "_law_cell", "_law_number"] ["_law_deck_here", "_law_many"] (defScope s__law_draw) := ⟨rfl, rfl, rfl, by decide +kernel, rfl, by decide +kernel, by decide +kernel⟩
def sp__law_draw : Sp := fun vs H Q _ => ∃ (d c : Addr) (n : Nat) (m : Int), vs = [.ref d, .int m] ∧ Deck H d c n ∧ n ≤ 1000000 ∧ (1 ≤ m ∧ m ≤ 1000000) ∧ ∀ i H', (0 ≤ i ∧ i < m) → Kp [d, c] H H' → Deck H' d c (n + 1) → Q (.int i) H'
theorem modB {a b : Int} (h : 0 < b) : 0 ≤ a % b ∧ a % b < b := ⟨Int.emod_nonneg a (by omega), Int.emod_lt_of_pos a h⟩
theorem ok__law_draw (F : At K mg "_law_draw" "_law_draw" s__law_draw ["_law_deck_here", "_law_many"] f fd) (T : Txt K mg) : FnOk P w K mg base CX0 1 f fd ["_law_deck_here", "_law_many"] sp__law_draw := by
  refine F.fn.ok sc__law_draw (fun vs H Q E h => ?_) (fun cdv A0 outer s H vs Q E hr h => ?_)
  · obtain ⟨d, c, n, m, rfl, _⟩ := h
    rfl
  · obtain ⟨d, c, n, m, rfl, D, hn, hm, q⟩ := h
    refine ⟨_, (pss_cons (ps_asg (pe_op op_add (pe_ix (r := rIxL K) ix_list (pv 0) pe_int (fun _ _ => rfl)) pe_int) (pg_sub (pv 0) pe_int set_list))
      (pss_cons (ps_set (i := 2) sc__law_draw.nd rfl (Or.inl rfl) (pe_ix (r := rIxL K) ix_list (pv 0) pe_int (fun _ _ => rfl)))
      (pss_cons (ps_if (pt_cmpR (op_neD hr.units) (pe_ix (r := rIxL K) ix_list (pv 0) pe_int (fun _ _ => rfl)) (pe_lst pa_nil) (nomark _)) (pss_cons (ps_set (i := 2) sc__law_draw.nd rfl (Or.inl rfl) (pe_bm0 PySem.F.plainAttrs_list PySem.F.slot_list_pop PySem.F.type_list_pop mt_pop (pe_ix (r := rIxL K) ix_list (pv 0) pe_int (fun _ _ => rfl))))
      (pss_cons (ps_if (pt_cmpR op_ge (pv 2) (pe_op op_pow pe_int pe_int) (nomark _)) (pss_cons (ps_expr (pe_bm PySem.F.plainAttrs_list PySem.F.slot_list_append PySem.F.type_list_append mt_append (pe_ix (r := rIxL K) ix_list (pv 0) pe_int (fun _ _ => rfl)) (pa_cons (pe_op op_fdiv (pv 2) (pv 1)) pa_nil)))
      (pss_one (ps_ret (pe_op op_mod (pv 2) (pv 1))))) pss_nil)
      (pss_one (ps_set (i := 2) sc__law_draw.nd rfl (Or.inl rfl) (pe_op op_add (pv 2) (pe_ix (r := rIxL K) ix_list (pv 0) pe_int (fun _ _ => rfl))))))) pss_nil)
      (pss_cons (ps_set (i := 3) sc__law_draw.nd rfl (Or.inl rfl) (pe_op op_mod (pe_op op_mul (pe_op op_add (pe_op op_add (pe_op op_mod (pv 2) pe_int) (pe_op op_mul (pe_op op_mul pe_int (pe_ix (r := rIxL K) ix_list (pv 0) pe_int (fun _ _ => rfl))) (pe_ix (r := rIxL K) ix_list (pv 0) pe_int (fun _ _ => rfl)))) pe_int) pe_int) pe_int))
      (pss_cons (ps_set (i := 3) sc__law_draw.nd rfl (Or.inl rfl) (pe_op op_mod (pe_op op_add (pe_op op_add (pe_op op_mul (pv 3) (pv 3)) (pe_op op_mul pe_int (pe_ix (r := rIxL K) ix_list (pv 0) pe_int (fun _ _ => rfl)))) pe_int) pe_int))
      (pss_one (ps_ret (pe_op op_mod (pe_op op_fdiv (pe_op op_mod (pe_op op_mul (pv 3) pe_int) pe_int) pe_int) (pv 1))))))))), ?_⟩
    obtain ⟨cells, mixed, count, e1, e2, hc, hx, hl⟩ := D.ex
    have ne := D.ne
    have kd : ∀ {H : Hp} {us us' : List V}, H d = some (.lst us) → Kp [d, c] H (upd H d (.lst us')) := fun e => Kp.put List.mem_cons_self e fun xs z => HO.noConfusion z
    have kc : ∀ {H : Hp} {us us' : List V}, H c = some (.lst us) → Kp [d, c] H (upd H c (.lst us')) := fun e => Kp.put (by simp) e fun xs z => HO.noConfusion z
    have at2V : L2.atI [V.ref c, .int mixed, .int count] 2 = some (.int count) := at2
    show tSeq _ _ _ _ _
    refine (ed_add (ed_v (ev_ixL (K := K) (ev_var rfl) e1 ed_i at2V) (.int count)) ed_i) H (Kp.refl _ _) _ fun v1 H1 k1 t1 => ?_
    cases t1
    refine ⟨_, rfl, d, _, 2, 2, rfl, rfl, k1.get e1, rfl, ?_⟩
    have e1' : (upd H1 d (.lst ([V.ref c, .int mixed, .int count].set 2 (.int (count + 1))))) d = some (.lst [.ref c, .int mixed, .int (count + 1)]) := upd_same
    have e2' : (upd H1 d (.lst ([V.ref c, .int mixed, .int count].set 2 (.int (count + 1))))) c = some (.lst (cells.map V.int)) := by rw [upd_ne ne]; exact k1.get e2
    have k02 : Kp [d, c] H (upd H1 d (.lst ([V.ref c, .int mixed, .int count].set 2 (.int (count + 1))))) := k1.wid.trans (kd (k1.get e1))
    generalize upd H1 d (.lst ([V.ref c, .int mixed, .int count].set 2 (.int (count + 1)))) = H2 at e1' e2' k02
    clear k1
    have b0 : ∀ {σ : L2.St} {H3 : Hp}, σ[0]? = some (some (.ref d)) → Kp [] H2 H3 → EvV (tOp (rIxL K) (tVar 0) (tC (.int 0))) σ H3 (.ref c) := fun h k => ev_ixL (ev_var h) (k.get e1') ed_i at0
    have b1 : ∀ {σ : L2.St} {H3 : Hp}, σ[0]? = some (some (.ref d)) → H3 d = some (.lst [.ref c, .int mixed, .int (count + 1)]) → EvD (tOp (rIxL K) (tVar 0) (tC (.int 1))) σ H3 (.int mixed) := fun h e => ed_v (ev_ixL (ev_var h) e ed_i at1) (.int _)
    have b2 : ∀ {σ : L2.St} {H3 : Hp}, σ[0]? = some (some (.ref d)) → H3 d = some (.lst [.ref c, .int mixed, .int (count + 1)]) → EvD (tOp (rIxL K) (tVar 0) (tC (.int 2))) σ H3 (.int (count + 1)) := fun h e => ed_v (ev_ixL (ev_var h) e ed_i at2) (.int _)
    try dsimp only
    refine sd_set (b1 rfl e1') fun v3 H3 k3 t3 => ?_
    cases t3
    try dsimp only
    -- the end, from any cell
    have fin : ∀ (cell : Int) (o3 : Option V) (cs : List Int) (H4 : Hp), Kp [d, c] H H4 → H4 d = some (.lst [.ref c, .int mixed, .int (count + 1)]) → H4 c = some (.lst (cs.map V.int)) → cs.length ≤ 63 →
        tSeq (tAsg (tOp (rI (fun _ j => 0 < j) fun i j => .int (i % j)) (tOp (rI CMul fun i j => .int (i * j)) (tOp (rI0 fun i j => .int (i + j)) (tOp (rI0 fun i j => .int (i + j)) (tOp (rI (fun _ j => 0 < j) fun i j => .int (i % j)) (tVar 2) (tC (.int 2147483629))) (tOp (rI CMul fun i j => .int (i * j)) (tOp (rI CMul fun i j => .int (i * j)) (tC (.int 65537)) (tOp (rIxL K) (tVar 0) (tC (.int 2)))) (tOp (rIxL K) (tVar 0) (tC (.int 2))))) (tC (.int 29))) (tC (.int 40692))) (tC (.int 2147483647))) (gName 3))
          (tSeq (tAsg (tOp (rI (fun _ j => 0 < j) fun i j => .int (i % j)) (tOp (rI0 fun i j => .int (i + j)) (tOp (rI0 fun i j => .int (i + j)) (tOp (rI CMul fun i j => .int (i * j)) (tVar 3) (tVar 3)) (tOp (rI CMul fun i j => .int (i * j)) (tC (.int 69621)) (tOp (rIxL K) (tVar 0) (tC (.int 2))))) (tC (.int 13))) (tC (.int 2147483587))) (gName 3))
            (tRet (tOp (rI (fun _ j => 0 < j) fun i j => .int (i % j)) (tOp (rI CDiv fun i j => .int (i / j)) (tOp (rI (fun _ j => 0 < j) fun i j => .int (i % j)) (tOp (rI CMul fun i j => .int (i * j)) (tVar 3) (tC (.int 48271))) (tC (.int 2147483563))) (tC (.int 64))) (tVar 1)))) { nx := fun _ H' => Q .non H', rt := Q } [some (.ref d), some (.int m), some (.int cell), o3] H4 := fun cell o3 cs H4 k4 d4 c4 l4 => by
      have hcell := modB (a := cell) (b := 2147483629) (by decide)
      refine sd_set (ed_mod (ed_mul (ed_add (ed_add (ed_mod (ed_var rfl (.int cell)) ed_i (by decide)) (ed_mul (ed_mul ed_i (b2 rfl d4) (.inl ⟨by decide, by decide⟩)) (b2 rfl d4) (.inl ⟨by omega, by omega⟩))) ed_i) ed_i (.inr ⟨by decide, by decide⟩)) ed_i (by decide)) fun v5 H5 k5 t5 => ?_
      have h5 := modB (a := (cell % 2147483629 + 65537 * (count + 1) * (count + 1) + 29) * 40692) (b := 2147483647) (by decide)
      generalize (cell % 2147483629 + 65537 * (count + 1) * (count + 1) + 29) * 40692 % 2147483647 = num at t5 h5
      cases t5
      try dsimp only
      refine sd_set (ed_mod (ed_add (ed_add (ed_mul (ed_var rfl (.int num)) (ed_var rfl (.int num)) (.inl ⟨by omega, by omega⟩)) (ed_mul ed_i (b2 rfl (k5.get d4)) (.inl ⟨by decide, by decide⟩))) ed_i) ed_i (by decide)) fun v6 H6 k6 t6 => ?_
      have h6 := modB (a := num * num + 69621 * (count + 1) + 13) (b := 2147483587) (by decide)
      generalize (num * num + 69621 * (count + 1) + 13) % 2147483587 = nu2 at t6 h6
      cases t6
      try dsimp only
      refine sd_ret (ed_mod (ed_fdiv (ed_mod (ed_mul (ed_var rfl (.int nu2)) ed_i (.inl ⟨by omega, by omega⟩)) ed_i (by decide)) ed_i ⟨by decide, by decide⟩) (ed_var rfl (.int m)) (by omega)) fun v7 H7 k7 t7 => ?_
      cases t7
      have k47 := (k5.trans k6).trans k7
      exact q _ H7 (modB (by omega)) (k4.trans k47.wid) ⟨ne, cs, mixed, count + 1, k47.get d4, k47.get c4, ⟨by omega, by omega⟩, hx, l4⟩
    have e3 := k3.get e1'
    have c3 := k3.get e2'
    refine st_if (et_someI (el0_v (b0 rfl k3) c3 (.ints cells))) (fun hne H4 k4 => ?_) fun hne H4 k4 => ?_
    · have hne : cells ≠ [] := fun z => by rw [z] at hne; exact absurd hne (by decide)
      obtain ⟨ini, x, rfl⟩ : ∃ ini x, cells = ini ++ [x] := ⟨cells.dropLast, cells.getLast hne, (List.dropLast_concat_getLast hne).symm⟩
      have k34 := k3.trans k4
      show tSeq _ _ _ _ _
      refine st_asg ((b0 rfl k34) H4 (Kp.refl _ _) _ fun H5 k5 => ?_)
      have d5 := (k34.trans k5).get e1'
      have c5 := (k34.trans k5).get e2'
      refine ⟨.inl ⟨rfl, _, SqL.of c5⟩, c, _, .int x, rfl, rfl, c5, by simp, ?_⟩
      have c6 : (upd H5 c (.lst ((ini ++ [x]).map V.int).dropLast)) c = some (.lst (ini.map V.int)) := by rw [upd_same, List.map_append]; simp
      have d6 : (upd H5 c (.lst ((ini ++ [x]).map V.int).dropLast)) d = some (.lst [.ref c, .int mixed, .int (count + 1)]) := by rw [upd_ne (Ne.symm ne)]; exact d5
      have k06 : Kp [d, c] H (upd H5 c (.lst ((ini ++ [x]).map V.int).dropLast)) := (k02.trans (k34.trans k5).wid).trans (kc c5)
      generalize upd H5 c (.lst ((ini ++ [x]).map V.int).dropLast) = H6 at c6 d6 k06
      have li : ini.length ≤ 63 := by rw [List.length_append] at hl; omega
      try dsimp only
      refine st_if (et_ge (ed_var rfl (.int x)) (ed_op ed_i ed_i (z := 10 ^ 18) fun H1 Q q => ⟨10, 18, rfl, rfl, ⟨by decide, by decide, by decide⟩, q⟩)) (fun hge H7 k7 => ?_) fun hge H7 k7 => ?_
      · show tSeq _ _ _ _ _
        refine sx_app (ds := ini.map PyData.int) (ev_ixL (K := K) (ev_var rfl) (k7.get d6) ed_i at0) (k7.get c6) (.ints ini) (ed_fdiv (ed_var rfl (.int x)) (ed_var rfl (.int m)) ⟨by omega, by omega⟩) (by rw [List.length_map]; omega) fun us H8 e8 t8 k8 => ?_
        obtain rfl : us = (ini ++ [x / m]).map V.int := TDs.ofInts (by rw [List.map_append]; exact t8)
        refine sd_ret (ed_mod (ed_var rfl (.int x)) (ed_var rfl (.int m)) (by omega)) fun v9 H9 k9 t9 => ?_
        cases t9
        refine q _ H9 (modB (by omega)) (((k06.trans k7.wid).trans (k8.mono fun b hb => by rw [List.mem_singleton.mp hb]; simp)).trans k9.wid) ⟨ne, _, mixed, count + 1, k9.get (k8.oth d _ (fun z => ne (List.mem_singleton.mp z).symm) (k7.get d6)), k9.get e8, ⟨by omega, by omega⟩, hx, ?_⟩
        rw [List.length_append] at hl ⊢
        exact hl
      · try delta tNext
        try dsimp only
        refine sd_set (ed_add (ed_var rfl (.int x)) (b1 rfl (k7.get d6))) fun v8 H8 k8 t8 => ?_
        cases t8
        have k68 := k7.trans k8
        exact fin _ _ ini H8 (k06.trans k68.wid) (k68.get d6) (k68.get c6) li
    · try delta tNext
      exact fin _ _ cells H4 (k02.trans (k3.trans k4).wid) ((k3.trans k4).get e1') ((k3.trans k4).get e2') hl
end
end Sr
/-! The deck made; picks, words. -/
namespace Sr
open PySem PySem.Spec PyProof.Rows L2
section
variable {P : Program} {w : World} {K : PySem.W.Frag} {mg : Str → Option Value} {base : Heap} {f : Addr} {fd : FuncData}
theorem SqL.kp {H H' : Hp} {a : Addr} {xs : List V} (h : SqL K H a xs) (k : Kp [] H H') : SqL K H' a xs :=
  h.elim (fun h => .inl (h.elim (fun h => .inl (k.get h)) fun ⟨o, h⟩ => .inr ⟨o, k.get h⟩)) fun h => .inr h
theorem el_slS {σ : L2.St} {H : Hp} {ta : TE} {tl th : TO} {l : Addr} {vs : List V} {ds : List PyData} {lo hi : Option Int} (he : EvV ta σ H (.ref l)) (hl : SqL K H l vs) (r : TDs H vs ds) (h1 : EvO tl σ H lo) (h2 : EvO th σ H hi) : EvL (tSl (rSlL K) ta tl th) σ H (cutD ds lo hi) := fun H1 k Q q =>
  he H1 k _ fun H2 k2 => h1 H2 (k.trans k2) _ fun H3 k3 => h2 H3 ((k.trans k2).trans k3) _ fun H4 k4 => by
    have k14 := (k2.trans k3).trans k4
    exact ⟨l, vs, rfl, SqL.kp hl (k.trans k14), fun z hz => q z _ _ (k14.free hz) (k14.newT hz) upd_same (((r.kp (k.trans k14)).cut lo hi).kp (Kp.new (S := []) hz))⟩
theorem ok__law_deck (F : At K mg "_law_deck" "_law_deck" s__law_deck ["_law_script"] f fd) (T : Txt K mg) : FnOk P w K mg base CX0 1 f fd ["_law_script"] (sp__law_deck K) := by
  refine F.fn.ok sc__law_deck (fun vs H Q E h => ?_) (fun cdv A0 outer s H vs Q E hr h => ?_)
  · obtain ⟨l, xs, rfl, _⟩ := h
    rfl
  · obtain ⟨l, xs, rfl, hl, q⟩ := h
    refine ⟨_, (pss_cons (ps_par (i := 1) (j := 2) rfl sc__law_deck.nd rfl rfl (by decide) rfl rfl (pa_cons (pe_callTy call_list_of rfl T.f_list (by decide +kernel) (pa_cons (pe_slice (r := rSlL K) sl_list (pv 0) po_none (po_some pe_int)) pa_nil)) (pa_cons pe_int pa_nil)) rfl)
      (pss_cons (ps_for PassesOwn.never rfl (pi_list (pv 1)) (pg_name (i := 3) sc__law_deck.nd rfl (Or.inl rfl)) (pss_one (ps_set (i := 2) sc__law_deck.nd rfl (Or.inl rfl) (pe_op op_mod (pe_op op_add (pe_op op_add (pe_op op_mul (pv 2) pe_int) (pe_op op_mod (pv 3) pe_int)) pe_int) pe_int))))
      (pss_one (ps_ret (pe_lst (pa_cons (pe_revL (pv 1)) (pa_cons (pv 2) (pa_cons pe_int pa_nil)))))))), ?_⟩
    have hcut : (cutD (xs.map PyData.int) none (some 63)).length ≤ 63 := by
      unfold cutD
      rw [List.length_take]
      have : HT.sIx (xs.map PyData.int).length (xs.map PyData.int).length (some 63) ≤ 63 := by
        rw [show (some (63 : Int)) = some ((63 : Nat) : Int) from rfl, HT.sIx_nat]
        exact Nat.min_le_left _ _
      omega
    have hints : ∃ ys : List Int, cutD (xs.map PyData.int) none (some 63) = ys.map PyData.int := ⟨cutD xs none (some 63), by unfold cutD; rw [List.length_map, ← List.map_drop, ← List.map_take]⟩
    obtain ⟨ys, hys⟩ := hints
    rw [hys, List.length_map] at hcut
    show tSeq _ _ _ _ _
    refine (el_slS (K := K) (ev_var (i := 0) (σ := L2.start ["_law_script", "_law_cells", "_law_mixed", "_law_cell"] [.ref l]) rfl) hl (.ints xs) eo_none (eo_some ed_i)) H (Kp.refl _ _) _ fun l1 us1 H1 hl1 k1 e1 t1 => ?_
    rw [hys] at t1
    obtain rfl := TDs.ofInts t1
    refine ⟨l1, _, rfl, .inl (SqL.of e1), fun c0 hc0 => ?_⟩
    have k2 : Kp [] H1 (upd H1 c0 (.lst (ys.map V.int))) := Kp.new hc0
    have e2 : (upd H1 c0 (.lst (ys.map V.int))) c0 = some (.lst (ys.map V.int)) := upd_same
    generalize upd H1 c0 (.lst (ys.map V.int)) = H2 at k2 e2
    refine ⟨_, _, rfl, ?_⟩
    have k02 := k1.trans k2
    try dsimp only
    refine st_for (ei_list (ev_var rfl) e2) fun H3 k3 => ?_
    refine ⟨fun i σ' H' => ∃ o mixed, σ' = [some (.ref l), some (.ref c0), some (.int mixed), o] ∧ (0 ≤ mixed ∧ mixed < 2147483587) ∧ Kp [] H3 H', ⟨_, _, rfl, by decide, Kp.refl _ _⟩, fun i σ' H' ⟨_, _, _, _, kp⟩ => ⟨_, kp, fun _ _ z => nomatch z⟩, fun i x σ' H4 H4' hi hP hy => ?_, fun σ' H4 hP => ?_⟩
    · obtain ⟨o, mixed, rfl, hm, kp⟩ := hP
      obtain ⟨rfl, hx⟩ := hy
      rw [List.getElem?_map] at hx
      obtain ⟨z, hz, rfl⟩ := Option.map_eq_some_iff.mp hx
      have hzz := modB (a := z) (b := 2147483629) (by decide)
      refine sd_set (ed_mod (ed_add (ed_add (ed_mul (ed_var rfl (.int mixed)) ed_i (.inl ⟨by omega, by omega⟩)) (ed_mod (ed_var rfl (.int z)) ed_i (by decide))) ed_i) ed_i (by decide)) fun v5 H5 k5 t5 => ?_
      cases t5
      exact ⟨_, _, rfl, modB (by decide), kp.trans k5⟩
    · obtain ⟨o, mixed, rfl, hm, kp⟩ := hP
      have k04 := (k02.trans k3).trans kp
      have e4 := (k3.trans kp).get e2
      refine ⟨_, rfl, c0, _, rfl, SqL.of e4, fun c hc => ?_⟩
      refine ⟨_, rfl, (show 3 ≤ sizeLine by decide), fun d hd => ?_⟩
      have kc : Kp [] H4 (upd H4 c (.lst (ys.map V.int).reverse)) := Kp.new hc
      have kd := Kp.new (S := []) (o := .lst [.ref c, .int mixed, .int 0]) hd
      have nd : c ≠ d := fun z => by rw [← z, upd_same] at hd; cases hd
      refine q d c _ ((k04.trans kc).trans kd) ((k04.trans kc).free hd) (k04.free hc) ⟨nd, ys.reverse, mixed, 0, upd_same, ?_, ⟨by decide, by decide⟩, hm, by rw [List.length_reverse]; exact hcut⟩
      rw [upd_ne nd, upd_same, List.map_reverse]
abbrev s__law_pick : Stmt := top 78
theorem sc__law_pick : FnScope ["_law_deck_here", "_law_items"] ["_law_deck_here", "_law_items"] (defScope s__law_pick) := ⟨rfl, rfl, rfl, by decide +kernel, rfl, by decide +kernel, by decide +kernel⟩
def sp__law_pick : Sp := fun vs H Q _ => ∃ (d c l : Addr) (n : Nat) (us : List V), vs = [.ref d, .ref l] ∧ Deck H d c n ∧ n ≤ 1000000 ∧ H l = some (.lst us) ∧ l ≠ d ∧ l ≠ c ∧ us ≠ [] ∧ us.length ≤ 1000 ∧ ∀ v H', v ∈ us → Kp [d, c] H H' → Deck H' d c (n + 1) → Q v H'
theorem run_draw {σ : L2.St} {H : Hp} {ta tb : TE} {E : XK} {Q : VK} {d c : Addr} {n : Nat} {m : Int} (ha : EvV ta σ H (.ref d)) (hb : EvD tb σ H (.int m)) (D : Deck H d c n) (hn : n ≤ 1000000) (hm : 1 ≤ m ∧ m ≤ 1000000) (q : ∀ i H1, (0 ≤ i ∧ i < m) → Kp [d, c] H H1 → Deck H1 d c (n + 1) → Q (.int i) H1) : tCall sp__law_draw [] E (tCons ta (tCons tb tNil)) σ H Q :=
  ha H (Kp.refl _ _) _ fun H1 k1 => ev_i hb H1 k1 _ fun H2 k2 => ⟨d, c, n, m, rfl, D.kp0 (k1.trans k2), hn, hm, fun i H3 hi k3 D3 => q i H3 hi ((k1.trans k2).wid.trans k3) D3⟩
theorem ok__law_pick (F : At K mg "_law_pick" "_law_pick" s__law_pick ["_law_deck_here", "_law_items"] f fd) (T : Txt K mg) (g__law_draw : GF P w K mg base 1 "_law_draw" ["_law_deck_here", "_law_many"] sp__law_draw) : FnOk P w K mg base CX0 2 f fd ["_law_deck_here", "_law_items"] sp__law_pick := by
  refine F.fn.ok sc__law_pick (fun vs H Q E h => ?_) (fun cdv A0 outer s H vs Q E hr h => ?_)
  · obtain ⟨d, c, l, n, us, rfl, _⟩ := h
    rfl
  · obtain ⟨d, c, l, n, us, rfl, D, hn, hl, n1, n2, h0, h1, q⟩ := h
    refine ⟨_, (pss_one (ps_ret (pe_ix (r := rIxL K) ix_list (pv 1) (pe_gf g__law_draw (hr.mono (by decide)) rfl (pa_cons (pv 0) (pa_cons (pe_callB (r := rLen K) call_len_seq rfl T.f_len PySem.boot_len (pa_cons (pv 1) pa_nil)) pa_nil))) (fun _ _ => rfl)))), ?_⟩
    have hp := List.length_pos_iff.mpr h0
    refine ⟨_, rfl, run_draw (ev_var rfl) (ed_lenL (ev_var rfl) hl) D hn (by omega) fun i H1 hi k1 D1 => ?_⟩
    have e1 := k1.oth l _ (fun z => by simp at z; exact z.elim n1 n2) hl
    obtain ⟨j, rfl⟩ := Int.eq_ofNat_of_zero_le hi.1
    have hj : j < us.length := by omega
    exact ⟨l, us, _, us[j], rfl, rfl, SqL.of e1, L2.atI_nat (List.getElem?_eq_getElem hj), q _ H1 (List.getElem_mem hj) k1 D1⟩
/-- a pick from a list -/
theorem run_pick {σ : L2.St} {H : Hp} {ta tb : TE} {E : XK} {Q : VK} {d c l : Addr} {n : Nat} {us : List V} (ha : EvV ta σ H (.ref d)) (hb : EvV tb σ H (.ref l)) (D : Deck H d c n) (hn : n ≤ 1000000) (hl : H l = some (.lst us)) (n1 : l ≠ d) (n2 : l ≠ c) (h0 : us ≠ []) (h1 : us.length ≤ 1000) (q : ∀ v H1, v ∈ us → Kp [d, c] H H1 → Deck H1 d c (n + 1) → Q v H1) :
    tCall sp__law_pick [] E (tCons ta (tCons tb tNil)) σ H Q :=
  ha H (Kp.refl _ _) _ fun H1 k1 => hb H1 k1 _ fun H2 k2 => ⟨d, c, l, n, us, rfl, D.kp0 (k1.trans k2), hn, (k1.trans k2).get hl, n1, n2, h0, h1, fun v H3 hv k3 D3 => q v H3 hv ((k1.trans k2).wid.trans k3) D3⟩
/-- a pick from a display -/
theorem run_pickN {σ : L2.St} {H : Hp} {ta : TE} {t : TA} {E : XK} {Q : VK} {d c : Addr} (ha : EvV ta σ H (.ref d))
    (hb : ∀ H1, Kp [] H H1 → ∀ R : List V → Hp → Prop, (∀ us H2 m, us ≠ [] → us.length ≤ 1000 → Deck H2 d c m → m ≤ 1000000 → (∀ v H3, v ∈ us → Kp [d, c] H2 H3 → Deck H3 d c (m + 1) → Q v H3) → R us H2) → t σ H1 R) : tCall sp__law_pick [] E (tCons ta (tCons (tLst t) tNil)) σ H Q := by
  refine ha H (Kp.refl _ _) _ fun H1 k1 => ?_
  refine hb H1 k1 _ fun us H2 m h0 h1 D hm q => ⟨le_line (by omega), fun l hl => ?_⟩
  have kl : Kp [] H2 (upd H2 l (.lst us)) := Kp.new hl
  have nl : ∀ {b : Addr}, (∃ o, H2 b = some o) → l ≠ b := fun ⟨o, ho⟩ z => by rw [z, ho] at hl; cases hl
  exact ⟨d, c, l, m, us, rfl, D.kp0 kl, hm, upd_same, nl D.at.1, nl D.at.2, h0, h1, fun v H3 hv k3 D3 => q v H3 hv (kl.wid.trans k3) D3⟩
abbrev s__law_word : Stmt := top 79
theorem sc__law_word : FnScope ["_law_deck_here", "_law_some"] ["_law_deck_here"] (defScope s__law_word) := ⟨rfl, rfl, rfl, by decide +kernel, rfl, by decide +kernel, by decide +kernel⟩
def sp__law_word : Sp := fun vs H Q _ => ∃ (d c : Addr) (n : Nat), vs = [.ref d] ∧ Deck H d c n ∧ n ≤ 900000 ∧ ∀ i H', wOk i → Kp [d, c] H H' → Deck H' d c (n + 4) → Q (.int i) H'
theorem ok__law_word (F : At K mg "_law_word" "_law_word" s__law_word ["_law_deck_here"] f fd) (T : Txt K mg) (g__law_draw : GF P w K mg base 1 "_law_draw" ["_law_deck_here", "_law_many"] sp__law_draw) (g__law_pick : GF P w K mg base 2 "_law_pick" ["_law_deck_here", "_law_items"] sp__law_pick) : FnOk P w K mg base CX0 3 f fd ["_law_deck_here"] sp__law_word := by
  refine F.fn.ok sc__law_word (fun vs H Q E h => ?_) (fun cdv A0 outer s H vs Q E hr h => ?_)
  · obtain ⟨d, c, n, rfl, _⟩ := h
    rfl
  · obtain ⟨d, c, n, rfl, D, hn, q⟩ := h
    refine ⟨_, (pss_cons (ps_set (i := 1) sc__law_word.nd rfl (Or.inl rfl) (pe_lst (pa_cons (pe_gf g__law_draw (hr.mono (by decide)) rfl (pa_cons (pv 0) (pa_cons pe_int pa_nil))) (pa_cons (pe_op op_sub pe_int (pe_gf g__law_draw (hr.mono (by decide)) rfl (pa_cons (pv 0) (pa_cons pe_int pa_nil)))) (pa_cons (pe_gf g__law_draw (hr.mono (by decide)) rfl (pa_cons (pv 0) (pa_cons pe_int pa_nil))) (pa_cons pe_int pa_nil))))))
      (pss_one (ps_ret (pe_gf g__law_pick (hr.mono (by decide)) rfl (pa_cons (pv 0) (pa_cons (pv 1) pa_nil)))))), ?_⟩
    show tSeq _ _ _ _ _
    refine run_draw (ev_var rfl) ed_i D (by omega) ⟨by decide, by decide⟩ fun i1 H1 h1 k1 D1 => ?_
    refine run_draw (ev_var rfl) ed_i D1 (by omega) ⟨by decide, by decide⟩ fun i2 H2 h2 k2 D2 => ⟨_, _, rfl, rfl, ?_⟩
    refine run_draw (ev_var rfl) ed_i D2 (by omega) ⟨by decide, by decide⟩ fun i3 H3 h3 k3 D3 => ?_
    refine ⟨(show 4 ≤ sizeLine by decide), fun l hl => ?_⟩
    have kl : Kp [] H3 (upd H3 l (.lst [.int i1, .int (999999 - i2), .int i3, .int 1])) := Kp.new hl
    have nl : ∀ {b : Addr}, (∃ o, H3 b = some o) → l ≠ b := fun ⟨o, ho⟩ z => by rw [z, ho] at hl; cases hl
    try dsimp only
    refine run_pick (us := [.int i1, .int (999999 - i2), .int i3, .int 1]) (ev_var rfl) (ev_var rfl) (D3.kp0 kl) (by omega) upd_same (nl D3.at.1) (nl D3.at.2) (fun z => nomatch z) (by simp) fun v H4 hv k4 D4 => ?_
    have kall := ((k1.trans k2).trans k3).trans (kl.wid.trans k4)
    simp only [List.mem_cons, List.not_mem_nil, or_false] at hv
    rcases hv with rfl | rfl | rfl | rfl
    · exact q _ H4 ⟨by omega, by omega⟩ kall D4
    · exact q _ H4 ⟨by omega, by omega⟩ kall D4
    · exact q _ H4 ⟨by omega, by omega⟩ kall D4
    · exact q _ H4 ⟨by omega, by omega⟩ kall D4
theorem run_word {σ : L2.St} {H : Hp} {ta : TE} {E : XK} {Q : VK} {d c : Addr} {n : Nat} (ha : EvV ta σ H (.ref d)) (D : Deck H d c n) (hn : n ≤ 900000) (q : ∀ i H1, wOk i → Kp [d, c] H H1 → Deck H1 d c (n + 4) → Q (.int i) H1) : tCall sp__law_word [] E (tCons ta tNil) σ H Q :=
  ha H (Kp.refl _ _) _ fun H1 k1 => ⟨d, c, n, rfl, D.kp0 k1, hn, fun i H3 hi k3 D3 => q i H3 hi (k1.wid.trans k3) D3⟩
end
end Sr
/-! The law's recipes. -/
namespace Sr
open PySem PySem.Spec PyProof.Rows L2
section
variable {K : PySem.W.Frag} {σ : L2.St} {H : Hp} {ta tb te : TE} {ds : List PyData}
theorem ed_someI {xs : List Int} (ha : EvL0 ta σ H (xs.map PyData.int)) : EvD (tOp (rNeD K) ta (tLst tNil)) σ H (.bool (!decide (xs = []))) := fun H1 k Q q =>
  ha H1 k _ fun l vs H2 k2 e2 t2 => (el_lst (σ := σ) (H := H2) eds_nil (Nat.zero_le _)) H2 (Kp.refl _ _) _ fun m us H3 hm k3 e3 t3 => by
    have e : PyData.eqv (.list (xs.map PyData.int)) (.list []) = decide (xs = []) := by
      show PyData.eqvAll (xs.map PyData.int) [] = _
      exact eqv_ints xs []
    refine ⟨.list (xs.map PyData.int), .list [], .lst (SqL.of (k3.get e2)) (t2.kp k3).dp, .lst (SqL.of e3) t3.dp, (Shp.lst (n := 1) (Shp.ints xs)).ok (by decide), (Shp.lst (n := 1) (ds := []) fun d m => nomatch m).ok (by decide), ?_⟩
    rw [e]
    exact q _ H3 (k2.trans k3) (.bl _)
theorem app_fin {l : Addr} {vs : List V} {u : V} {d : PyData} {N : Hp → Prop} (e : H l = some (.lst vs)) (hv : TDs H vs ds) (td : TD H u d) (hz : ds.length < 100000) (n : ∀ us H1, H1 l = some (.lst us) → TDs H1 us (ds ++ [d]) → Kp [l] H H1 → N H1) : rAppend (.ref l) [u] H fun _ H1 => N H1 := by
  have kp : Kp [l] H (upd H l (.lst (vs ++ [u]))) := Kp.put (List.mem_singleton.mpr rfl) e (fun xs z => HO.noConfusion z)
  exact ⟨l, vs, u, rfl, rfl, e, lt_line (by rw [hv.len]; exact hz), n _ _ upd_same ((hv.kp kp).app (.one (td.kp kp))) kp⟩
end
theorem ret_tup2 {ta tb : TE} {D : Ends} {σ : L2.St} {H : Hp} (h : ta σ H fun v H1 => tb σ H1 fun u H2 => 2 ≤ sizeLine ∧ ∀ p, H2 p = none → D.rt (.ref p) (upd H2 p (.tup [v, u]))) : tRet (tTup (tCons ta (tCons tb tNil))) D σ H := h
theorem Kp.new_tup {H : Hp} {p : Addr} {xs : List V} {ds : List PyData} (h : H p = none) (t : TDs H xs ds) : Kp [] H (upd H p (.tup xs)) ∧ TD (upd H p (.tup xs)) (.ref p) (.tuple ds) := ⟨Kp.new h, .tup upd_same (t.kp (Kp.new (S := []) h))⟩
theorem mem_ints {v : V} {ks : List Int} (h : v ∈ ks.map V.int) : ∃ s, v = .int s ∧ s ∈ ks := by
  obtain ⟨s, hs, rfl⟩ := List.mem_map.mp h
  exact ⟨s, rfl, hs⟩
def RecInv (d c lf lk : Addr) (m : Int) (n : Nat) (H2 : Hp) (i : Nat) (σ' : L2.St) (H' : Hp) : Prop := ∃ (o5 o6 o7 o8 : Option V) (rows : List Row) (uf : List V), σ' = [some (.ref d), some (.int m), some (.int 3), some (.ref lf), some (.ref lk), o5, o6, o7, o8] ∧ rows.length = i ∧ Kp [d, c, lf, lk] H2 H' ∧ Deck H' d c (n + 1 + 7 * i) ∧ H' lf = some (.lst uf) ∧ TDs H' uf (rows.map rowD) ∧ H' lk = some (.lst ((rows.map tgt).map V.int)) ∧ ∀ (j : Nat) (row : Row), rows[j]? = some row → GoodRow m ((rows.take j).map tgt) row ∧ (0 ≤ tgt row ∧ tgt row < 24)
section
variable {P : Program} {w : World} {K : PySem.W.Frag} {mg : Str → Option Value} {base : Heap} {f : Addr} {fd : FuncData}
abbrev s__law_recipe : Stmt := top 80
theorem sc__law_recipe : FnScope ["_law_deck_here", "_law_many", "_law_most", "_law_found", "_law_known", "_law_k", "_law_to", "_law_way", "_law_word_here"] ["_law_deck_here", "_law_many", "_law_most"] (defScope s__law_recipe) := ⟨rfl, rfl, rfl, by decide +kernel, rfl, by decide +kernel, by decide +kernel⟩
def sp__law_recipe : Sp := fun vs H Q _ => ∃ (d c : Addr) (n : Nat) (m : Int), vs = [.ref d, .int m, .int 3] ∧ Deck H d c n ∧ n ≤ 800000 ∧ (1 ≤ m ∧ m ≤ 1000) ∧ ∀ (r : Rec) v H', GoodRec m r → Kp [d, c] H H' → Deck H' d c (n + 30) → TD H' v (recD r) → Q v H'
theorem ok__law_recipe (F : At K mg "_law_recipe" "_law_recipe" s__law_recipe ["_law_deck_here", "_law_many", "_law_most"] f fd) (T : Txt K mg) (g__law_draw : GF P w K mg base 1 "_law_draw" ["_law_deck_here", "_law_many"] sp__law_draw) (g__law_pick : GF P w K mg base 2 "_law_pick" ["_law_deck_here", "_law_items"] sp__law_pick)
    (g__law_word : GF P w K mg base 3 "_law_word" ["_law_deck_here"] sp__law_word) : FnOk P w K mg base CX0 4 f fd ["_law_deck_here", "_law_many", "_law_most"] sp__law_recipe := by
  refine F.fn.ok sc__law_recipe (fun vs H Q E h => ?_) (fun cdv A0 outer s H vs Q E hr h => ?_)
  · obtain ⟨d, c, n, m, rfl, _⟩ := h
    rfl
  · obtain ⟨d, c, n, m, rfl, D, hn, hm, q⟩ := h
    refine ⟨_, (pss_cons (ps_par (i := 3) (j := 4) rfl sc__law_recipe.nd rfl rfl (by decide) rfl rfl (pa_cons (pe_lst pa_nil) (pa_cons (pe_lst pa_nil) pa_nil)) rfl)
      (pss_cons (ps_for PassesOwn.never rfl (pi_range1 rfl T.f_range (pa_cons (pe_op op_add pe_int (pe_gf g__law_draw (hr.mono (by decide)) rfl (pa_cons (pv 0) (pa_cons (pv 2) pa_nil)))) pa_nil)) (pg_name (i := 5) sc__law_recipe.nd rfl (Or.inl rfl)) (pss_cons (ps_par (i := 6) (j := 7) rfl sc__law_recipe.nd rfl rfl (by decide) rfl rfl (pa_cons (pe_gf g__law_draw (hr.mono (by decide)) rfl (pa_cons (pv 0) (pa_cons pe_int pa_nil))) (pa_cons (pe_gf g__law_draw (hr.mono (by decide)) rfl (pa_cons (pv 0) (pa_cons (pe_ix (r := rIxL K) ix_list (pe_lst (pa_cons pe_int (pa_cons pe_int pa_nil))) (pe_callTy call_int1 rfl T.f_int (by decide +kernel) (pa_cons (pe_cmpR (op_neD hr.units) (pv 4) (pe_lst pa_nil) (nomark _)) pa_nil)) (fun _ _ => rfl)) pa_nil))) pa_nil)) rfl)
      (pss_cons (ps_if (pt_cmpR op_eq (pv 7) pe_int (nomark _)) (pss_one (ps_expr (pe_bm PySem.F.plainAttrs_list PySem.F.slot_list_append PySem.F.type_list_append mt_append (pv 3) (pa_cons (pe_tup (pa_cons pe_str (pa_cons (pv 6) (pa_cons (pe_gf g__law_word (hr.mono (by decide)) rfl (pa_cons (pv 0) pa_nil)) pa_nil)))) pa_nil)))) (pss_one (ps_if (pt_cmpR op_eq (pv 7) pe_int (nomark _)) (pss_one (ps_expr (pe_bm PySem.F.plainAttrs_list PySem.F.slot_list_append PySem.F.type_list_append mt_append (pv 3) (pa_cons (pe_tup (pa_cons pe_str (pa_cons (pv 6) (pa_cons (pe_gf g__law_draw (hr.mono (by decide)) rfl (pa_cons (pv 0) (pa_cons (pv 1) pa_nil))) pa_nil)))) pa_nil)))) (pss_one (ps_if (pt_cmpR op_eq (pv 7) pe_int (nomark _)) (pss_one (ps_expr (pe_bm PySem.F.plainAttrs_list PySem.F.slot_list_append PySem.F.type_list_append mt_append (pv 3) (pa_cons (pe_tup (pa_cons pe_str (pa_cons (pv 6) (pa_cons (pe_gf g__law_pick (hr.mono (by decide)) rfl (pa_cons (pv 0) (pa_cons (pv 4) pa_nil))) (pa_cons (pe_gf g__law_pick (hr.mono (by decide)) rfl (pa_cons (pv 0) (pa_cons (pv 4) pa_nil))) (pa_cons (pe_gf g__law_pick (hr.mono (by decide)) rfl (pa_cons (pv 0) (pa_cons (pv 4) pa_nil))) pa_nil)))))) pa_nil)))) (pss_cons (ps_set (i := 8) sc__law_recipe.nd rfl (Or.inl rfl) (pe_gf g__law_pick (hr.mono (by decide)) rfl (pa_cons (pv 0) (pa_cons (pe_lst (pa_cons pe_str (pa_cons pe_str (pa_cons pe_str (pa_cons pe_str (pa_cons pe_str (pa_cons pe_str (pa_cons pe_str pa_nil)))))))) pa_nil))))
      (pss_one (ps_expr (pe_bm PySem.F.plainAttrs_list PySem.F.slot_list_append PySem.F.type_list_append mt_append (pv 3) (pa_cons (pe_tup (pa_cons (pv 8) (pa_cons (pv 6) (pa_cons (pe_gf g__law_pick (hr.mono (by decide)) rfl (pa_cons (pv 0) (pa_cons (pv 4) pa_nil))) (pa_cons (pe_gf g__law_pick (hr.mono (by decide)) rfl (pa_cons (pv 0) (pa_cons (pv 4) pa_nil))) pa_nil))))) pa_nil))))))))))
      (pss_one (ps_expr (pe_bm PySem.F.plainAttrs_list PySem.F.slot_list_append PySem.F.type_list_append mt_append (pv 4) (pa_cons (pv 6) pa_nil)))))))
      (pss_one (ps_ret (pe_tup (pa_cons (pe_callTy call_tuple_of rfl T.f_tuple (by decide +kernel) (pa_cons (pv 3) pa_nil)) (pa_cons (pe_gf g__law_pick (hr.mono (by decide)) rfl (pa_cons (pv 0) (pa_cons (pv 4) pa_nil))) pa_nil))))))), ?_⟩
    show tSeq _ _ _ _ _
    refine ⟨(show 0 ≤ sizeLine by decide), fun lf hlf => ⟨(show 0 ≤ sizeLine by decide), fun lk hlk => ⟨_, _, rfl, ?_⟩⟩⟩
    have k1 : Kp [] H (upd (upd H lf (.lst [])) lk (.lst [])) := (Kp.new hlf).trans (Kp.new hlk)
    have nfk : lf ≠ lk := fun z => by rw [← z, upd_same] at hlk; cases hlk
    have ef : (upd (upd H lf (.lst [])) lk (.lst [])) lf = some (.lst []) := by rw [upd_ne nfk, upd_same]
    have ek : (upd (upd H lf (.lst [])) lk (.lst [])) lk = some (.lst []) := upd_same
    have hlk0 : H lk = none := (Kp.new (S := []) hlf).free hlk
    generalize upd (upd H lf (.lst [])) lk (.lst []) = H1 at k1 ef ek
    have nn : ∀ {b a : Addr}, H b = none → (∃ o, H a = some o) → b ≠ a := fun h ⟨o, ho⟩ z => by rw [z, ho] at h; cases h
    have nfd := nn hlf D.at.1
    have nfc := nn hlf D.at.2
    have nkd := nn hlk0 D.at.1
    have nkc := nn hlk0 D.at.2
    have D1 := D.kp0 k1
    try dsimp only
    show tSeq _ _ _ _ _
    refine run_draw (ev_var rfl) (ed_var rfl (.int 3)) D1 (by omega) ⟨by decide, by decide⟩ fun i0 H2 hi0 k2 D2 => ⟨_, _, rfl, rfl, ?_⟩
    refine ⟨_, rfl, by omega, by omega, ?_⟩
    have out : ∀ {b : Addr}, b ≠ d → b ≠ c → b ∉ [d, c] := fun h1 h2 z => by simp at z; exact z.elim h1 h2
    have ef2 := k2.oth lf _ (out nfd nfc) ef
    have ek2 := k2.oth lk _ (out nkd nkc) ek
    refine for_it (n := (1 + i0).toNat) walk_range (RecInv d c lf lk m n H2)
      ⟨_, _, _, _, [], [], rfl, rfl, Kp.refl _ _, D2.up (by omega), ef2, .nil, ek2, fun j row e => by simp at e⟩ (fun _ _ _ _ _ => trivial) (fun i x σ' H3 H3' hi hP hy => ?_) fun σ' H3 hP => ?_
    · obtain ⟨o5, o6, o7, o8, rows, uf, rfl, hlen, kp, D3, ef3, tf3, ek3, hg⟩ := hP
      obtain ⟨rfl, rfl⟩ := hy
      have hi3 : i < 3 := by omega
      have hrl : (rows.map rowD).length < 100000 := by rw [List.length_map]; omega
      have key : ∀ (to : Int) (r : Row) (H5 : Hp) (us : List V) (o5 o7 o8 : Option V) (D0 : Ends), (∀ σ' H', RecInv d c lf lk m n H2 (i + 1) σ' H' → D0.nx σ' H') → (0 ≤ to ∧ to < 24) → tgt r = to → GoodRow m (rows.map tgt) r → Kp [d, c, lf, lk] H3' H5 → Deck H5 d c (n + 1 + 7 * (i + 1)) → H5 lf = some (.lst us) → TDs H5 us (rows.map rowD ++ [rowD r]) → H5 lk = some (.lst ((rows.map tgt).map V.int)) →
          tDrop (tBM K "list" rAppend (tVar 4) (tCons (tVar 6) tNil)) D0 [some (.ref d), some (.int m), some (.int 3), some (.ref lf), some (.ref lk), o5, some (.int to), o7, o8] H5 := fun to r H5 us o5 o7 o8 D0 hD0 hto hr hgr k5 D5 ef5 tf5 ek5 => by
        refine sx_app (ds := (rows.map tgt).map PyData.int) (ev_var rfl) ek5 (.ints _) (ed_var rfl (.int to)) (by rw [List.length_map, List.length_map]; omega) fun us6 H6 e6 t6 k6 => ?_
        have o6 : ∀ {b : Addr}, b ≠ lk → b ∉ [lk] := fun h z => h (List.mem_singleton.mp z)
        refine hD0 _ _ ⟨_, _, _, _, rows ++ [r], us, rfl, by rw [List.length_append, hlen]; rfl, (kp.trans k5).trans (k6.mono fun b hb => by rw [List.mem_singleton.mp hb]; simp), D5.kp k6 (o6 (Ne.symm nkd)) (o6 (Ne.symm nkc)), k6.oth _ _ (o6 nfk) ef5, by rw [List.map_append]; exact tf5.kp k6, ?_, fun j row e => ?_⟩
        · obtain rfl : us6 = ((rows ++ [r]).map tgt).map V.int := TDs.ofInts (by rw [List.map_append, List.map_append]; rw [show ([r].map tgt).map PyData.int = [.int to] by rw [← hr]; rfl]; exact t6)
          exact e6
        · rcases Nat.lt_or_ge j rows.length with h | h
          · rw [List.getElem?_append_left h] at e
            rw [List.take_append_of_le_length (by omega)]
            exact hg j row e
          · have hj : j = rows.length := by
              have := (List.getElem?_eq_some_iff.mp e).1
              rw [List.length_append] at this
              simp at this
              omega
            subst hj
            rw [List.getElem?_append_right (Nat.le_refl _), Nat.sub_self] at e
            cases e
            rw [List.take_left, hr]
            exact ⟨hgr, hto⟩
      show tSeq _ _ _ _ _
      refine run_draw (ev_var rfl) ed_i D3 (by omega) ⟨by decide, by decide⟩ fun to H4 hto k4 D4 => ?_
      have ek4 := k4.oth lk _ (out nkd nkc) ek3
      refine run_draw (m := if rows.map tgt = [] then 2 else 5) (ev_var rfl) (ed_ixN (K := K) (EvL.l0 (el_lst (ds := [.int 2, .int 5]) (eds_cons ed_i (eds_cons ed_i eds_nil)) (by decide))) (ed_intB (ed_someI (el0_var rfl ek4 (.ints _)))) (by
        by_cases hz : rows.map tgt = []
        · simp only [hz]; exact at0
        · simp only [hz]; exact at1)) D4 (by omega) (by split <;> decide) fun way H5 hway k5 D5 => ⟨_, _, rfl, ?_⟩
      have ef5 := k5.oth lf _ (out nfd nfc) (k4.oth lf _ (out nfd nfc) ef3)
      have ek5 := k5.oth lk _ (out nkd nkc) ek4
      have tf5 := (tf3.kp k4).kp k5
      have k35 : Kp [d, c, lf, lk] H3' H5 := (k4.trans k5).mono fun b hb => by simp at hb; rcases hb with rfl | rfl <;> simp
      try dsimp only
      show tSeq _ _ _ _ _
      -- the row is made, appended
      have app : ∀ {H6 H7 : Hp} {u : V} {r : Row} {N : Hp → Prop}, Kp [d, c] H5 H6 → TD H6 u (rowD r) → (∀ us H8, Kp [d, c, lf, lk] H3' H8 → H8 lf = some (.lst us) → TDs H8 us (rows.map rowD ++ [rowD r]) → H8 lk = some (.lst ((rows.map tgt).map V.int)) → (∀ q, Deck H6 d c q → Deck H8 d c q) → N H8) → rAppend (.ref lf) [u] H6 fun _ H8 => N H8 := fun {H6 H7 u r N} k6 tu nx => by
        refine app_fin (k6.oth lf _ (out nfd nfc) ef5) (tf5.kp k6) tu hrl fun us H8 e8 t8 k8 => ?_
        have o8 : ∀ {b : Addr}, b ≠ lf → b ∉ [lf] := fun h z => h (List.mem_singleton.mp z)
        refine nx us H8 ((k35.trans (k6.mono fun b hb => by simp at hb; rcases hb with rfl | rfl <;> simp)).trans (k8.mono fun b hb => by rw [List.mem_singleton.mp hb]; simp)) e8 t8 (k8.oth _ _ (o8 (Ne.symm nfk)) (k6.oth lk _ (out nkd nkc) ek5)) fun q D => D.kp k8 (o8 (Ne.symm nfd)) (o8 (Ne.symm nfc))
      refine st_if (et_eqI (ed_var rfl (.int way)) ed_i) (fun hw H6 k6 => ?_) fun hw H6 k6 => ?_
      · refine ⟨_, rfl, .inl ⟨rfl, _, SqL.of (k6.get ef5)⟩, ?_⟩
        refine ⟨_, rfl, ?_⟩
        refine run_word (ev_var rfl) (D5.kp0 k6) (by omega) fun x H7 hx k7 D7 => ?_
        refine ⟨(show 3 ≤ sizeLine by decide), fun p hp => ?_⟩
        have kt := Kp.new_tup (xs := [.str "set", .int to, .int x]) (ds := [.str "set", .int to, .int x]) hp (.cons (.str _) (.cons (.int _) (.cons (.int _) .nil)))
        refine app (H7 := H7) (r := ro "set" [to, x]) ((k6.wid.trans k7).trans kt.1.wid) kt.2 fun us H8 k8 e8 t8 l8 d8 => ?_
        exact key to (ro "set" [to, x]) H8 us _ _ _ _ (fun _ _ h => h) hto rfl (.inl ⟨to, x, rfl, hto, hx⟩) k8 (d8 _ ((D7.kp0 kt.1).up (by omega))) e8 t8 l8
      · refine st_if (et_eqI (ed_var rfl (.int way)) ed_i) (fun hw2 H7 k7 => ?_) fun hw2 H7 k7 => ?_
        · have k67 := k6.trans k7
          refine ⟨_, rfl, .inl ⟨rfl, _, SqL.of (k67.get ef5)⟩, ?_⟩
          refine ⟨_, rfl, ?_⟩
          refine run_draw (ev_var rfl) (ed_var rfl (.int m)) (D5.kp0 k67) (by omega) (by omega) fun x H8 hx k8 D8 => ?_
          refine ⟨(show 3 ≤ sizeLine by decide), fun p hp => ?_⟩
          have kt := Kp.new_tup (xs := [.str "load", .int to, .int x]) (ds := [.str "load", .int to, .int x]) hp (.cons (.str _) (.cons (.int _) (.cons (.int _) .nil)))
          refine app (H7 := H8) (r := ro "load" [to, x]) ((k67.wid.trans k8).trans kt.1.wid) kt.2 fun us H9 k9 e9 t9 l9 d9 => ?_
          exact key to (ro "load" [to, x]) H9 us _ _ _ _ (fun _ _ h => h) hto rfl (.inr (.inl ⟨to, x, rfl, hto, hx⟩)) k9 (d9 _ ((D8.kp0 kt.1).up (by omega))) e9 t9 l9
        · have hz : rows.map tgt ≠ [] := fun z => by
            rw [if_pos z] at hway
            have h1 := of_decide_eq_false hw
            have h2 := of_decide_eq_false hw2
            omega
          have hks : ∀ s ∈ rows.map tgt, (0 ≤ s ∧ s < 24) ∧ s ∈ rows.map tgt := fun s hs => by
            obtain ⟨row, hrow, rfl⟩ := List.mem_map.mp hs
            obtain ⟨j, hj⟩ := List.mem_iff_getElem?.mp hrow
            exact ⟨(hg j row hj).2, hs⟩
          have hzV : (rows.map tgt).map V.int ≠ [] := fun z => hz (List.map_eq_nil_iff.mp z)
          have hlV : ((rows.map tgt).map V.int).length ≤ 1000 := by rw [List.length_map, List.length_map]; omega
          have k67 := k6.trans k7
          refine st_if (et_eqI (ed_var rfl (.int way)) ed_i) (fun hw3 H8 k8 => ?_) fun hw3 H8 k8 => ?_
          · have k68 := k67.trans k8
            have ek8 := k68.get ek5
            refine ⟨_, rfl, .inl ⟨rfl, _, SqL.of (k68.get ef5)⟩, ?_⟩
            refine ⟨_, rfl, ?_⟩
            refine run_pick (ev_var rfl) (ev_var rfl) (D5.kp0 k68) (by omega) ek8 nkd nkc hzV hlV fun v1 H9 hv1 k9 D9 => ?_
            have ek9 := k9.oth lk _ (out nkd nkc) ek8
            refine run_pick (ev_var rfl) (ev_var rfl) D9 (by omega) ek9 nkd nkc hzV hlV fun v2 H10 hv2 k10 D10 => ?_
            have ek10 := k10.oth lk _ (out nkd nkc) ek9
            refine run_pick (ev_var rfl) (ev_var rfl) D10 (by omega) ek10 nkd nkc hzV hlV fun v3 H11 hv3 k11 D11 => ?_
            obtain ⟨s1, rfl, m1⟩ := mem_ints hv1
            obtain ⟨s2, rfl, m2⟩ := mem_ints hv2
            obtain ⟨s3, rfl, m3⟩ := mem_ints hv3
            refine ⟨(show 5 ≤ sizeLine by decide), fun p hp => ?_⟩
            have kt := Kp.new_tup (xs := [.str "choose", .int to, .int s1, .int s2, .int s3]) (ds := [.str "choose", .int to, .int s1, .int s2, .int s3]) hp (.cons (.str _) (.cons (.int _) (.cons (.int _) (.cons (.int _) (.cons (.int _) .nil)))))
            refine app (H7 := H11) (r := ro "choose" [to, s1, s2, s3]) ((((k68.wid.trans k9).trans k10).trans k11).trans kt.1.wid) kt.2 fun us H12 k12 e12 t12 l12 d12 => ?_
            refine key to (ro "choose" [to, s1, s2, s3]) H12 us _ _ _ _ (fun _ _ h => h) hto rfl (.inr (.inr ⟨"choose", to, [s1, s2, s3], rfl, hto, .inl rfl, (show ((3 : Nat) : Int) = manyS "choose" by decide +kernel), fun s hs => ?_⟩)) k12 (d12 _ ((D11.kp0 kt.1).up (by omega))) e12 t12 l12
            simp only [List.mem_cons, List.not_mem_nil, or_false] at hs
            rcases hs with rfl | rfl | rfl
            · exact hks _ m1
            · exact hks _ m2
            · exact hks _ m3
          · have k68 := k67.trans k8
            have ek8 := k68.get ek5
            show tSeq _ _ _ _ _
            refine run_pickN (ev_var rfl) fun H9 k9 R r => r (opL.map V.str) H9 (n + 1 + 7 * i + 1 + 1) (by decide) (by decide) (D5.kp0 (k68.trans k9)) (by omega) fun v H10 hv k10 D10 => ?_
            have ek10 := k10.oth lk _ (out nkd nkc) (k9.get ek8)
            obtain ⟨z, hz1, rfl⟩ := List.mem_map.mp hv
            have k510 : Kp [d, c] H5 H10 := (k68.trans k9).wid.trans k10
            have ef10 := k510.oth lf _ (out nfd nfc) ef5
            try dsimp only
            refine ⟨_, rfl, .inl ⟨rfl, _, SqL.of ef10⟩, ?_⟩
            refine ⟨_, rfl, _, rfl, ?_⟩
            refine run_pick (ev_var rfl) (ev_var rfl) D10 (by omega) ek10 nkd nkc hzV hlV fun v1 H11 hv1 k11 D11 => ?_
            have ek11 := k11.oth lk _ (out nkd nkc) ek10
            refine run_pick (ev_var rfl) (ev_var rfl) D11 (by omega) ek11 nkd nkc hzV hlV fun v2 H12 hv2 k12 D12 => ?_
            obtain ⟨s1, rfl, m1⟩ := mem_ints hv1
            obtain ⟨s2, rfl, m2⟩ := mem_ints hv2
            refine ⟨(show 4 ≤ sizeLine by decide), fun p hp => ?_⟩
            have kt := Kp.new_tup (xs := [.str z, .int to, .int s1, .int s2]) (ds := [.str z, .int to, .int s1, .int s2]) hp (.cons (.str _) (.cons (.int _) (.cons (.int _) (.cons (.int _) .nil))))
            refine app (H7 := H12) (r := ro z [to, s1, s2]) (((k510.trans k11).trans k12).trans kt.1.wid) kt.2 fun us H13 k13 e13 t13 l13 d13 => ?_
            refine key to (ro z [to, s1, s2]) H13 us _ _ _ _ (fun _ _ h => h) hto rfl (.inr (.inr ⟨z, to, [s1, s2], rfl, hto, .inr hz1, (show ∀ z ∈ opL, ((2 : Nat) : Int) = manyS z by decide +kernel) z hz1, fun s hs => ?_⟩)) k13 (d13 _ ((D12.kp0 kt.1).up (by omega))) e13 t13 l13
            simp only [List.mem_cons, List.not_mem_nil, or_false] at hs
            rcases hs with rfl | rfl
            · exact hks _ m1
            · exact hks _ m2
    · obtain ⟨o5, o6, o7, o8, rows, uf, rfl, hlen, kp, D3, ef3, tf3, ek3, hg⟩ := hP
      have hz : rows ≠ [] := fun z => by rw [z] at hlen; simp at hlen; omega
      dsimp only
      refine ret_tup2 ?_
      refine (ed_tupleL (K := K) (el0_var (i := 3) (σ := [some (.ref d), some (.int m), some (.int 3), some (.ref lf), some (.ref lk), o5, o6, o7, o8]) rfl ef3 tf3)) H3 (Kp.refl _ _) _ fun v4 H4 k4 t4 => ?_
      have ek4 := k4.get ek3
      refine run_pick (ev_var rfl) (ev_var rfl) (D3.kp0 k4) (by omega) ek4 nkd nkc (fun z => hz (List.map_eq_nil_iff.mp (List.map_eq_nil_iff.mp z))) (by rw [List.length_map, List.length_map]; omega) fun v5 H5 hv5 k5 D5 => ?_
      obtain ⟨s, rfl, hs⟩ := mem_ints hv5
      refine ⟨(show 2 ≤ sizeLine by decide), fun p hp => ?_⟩
      have kt := Kp.new_tup (xs := [v4, .int s]) (ds := [.tuple (rows.map rowD), .int s]) hp (.cons (t4.kp k5) (.cons (.int _) .nil))
      have hsr : 0 ≤ s ∧ s < 24 := by
        obtain ⟨row, hrow, rfl⟩ := List.mem_map.mp hs
        obtain ⟨j, hj⟩ := List.mem_iff_getElem?.mp hrow
        exact (hg j row hj).2
      have kall : Kp [d, c] H (upd H5 p (.tup [v4, .int s])) := by
        refine ((k1.wid.trans k2).thenM (kp.trans (k4.wid.trans ((k5.trans kt.1.wid).mono fun b hb => by simp at hb; rcases hb with rfl | rfl <;> simp))) fun b hb => ?_)
        simp only [List.mem_cons, List.not_mem_nil, or_false] at hb
        rcases hb with rfl | rfl | rfl | rfl
        · exact .inl (by simp)
        · exact .inl (by simp)
        · exact .inr hlf
        · exact .inr hlk0
      exact q (rows, s) _ _ ⟨by show rows.length ≤ 3; omega, fun j row e => (hg j row e).1, hs, hsr⟩ kall ((D5.kp0 kt.1).up (by omega)) kt.2
end
end Sr
/-! The law's counter. -/
namespace Sr
open PySem PySem.Spec PyProof.Rows L2
theorem all_of {α : Type} {f : α → PyData} {P : α → Prop} : ∀ {ds : List PyData}, (∀ (i : Nat) (d : PyData), ds[i]? = some d → ∃ r, P r ∧ d = f r) → ∃ rs : List α, ds = rs.map f ∧ ∀ r ∈ rs, P r
  | [], _ => ⟨[], rfl, fun _ m => nomatch m⟩
  | d :: ds, h => by
    obtain ⟨r, hr, rfl⟩ := h 0 d rfl
    obtain ⟨rs, rfl, hs⟩ := all_of (f := f) (P := P) (ds := ds) fun i d e => h (i + 1) d (by simpa using e)
    refine ⟨r :: rs, rfl, fun x m => ?_⟩
    rcases List.mem_cons.mp m with rfl | m
    · exact hr
    · exact hs x m
theorem cb1_s {te : TE} {r : List V → Hp → VK → Prop} {σ : L2.St} {H : Hp} {Q : VK} (h : te σ H fun v H1 => r [v] H1 Q) : tCB r (tCons te tNil) σ H Q := h
/-- t + u behind all -/
theorem catT_fin {K : PySem.W.Frag} {H : Hp} {a b : Addr} {xs ys : List V} {ds es : List PyData} {Q : VK} (ha : H a = some (.tup xs)) (hb : H b = some (.tup ys)) (ra : TDs H xs ds) (rb : TDs H ys es) (h0 : xs ≠ []) (hz : ds.length + es.length ≤ 100000) (q : ∀ v H1, Kp [] H H1 → TD H1 v (.tuple (ds ++ es)) → Q v H1) : rCatT K (.ref a) (.ref b) H Q := by
  refine ⟨a, b, xs, ys, rfl, rfl, SqT.of ha, SqT.of hb, h0, le_line (by rw [ra.len, rb.len]; exact hz), fun z => ?_, fun _ p hp => q _ _ (Kp.new hp) (.tup upd_same ((ra.app rb).kp (Kp.new (S := []) hp)))⟩
  subst z
  cases rb
  rw [List.append_nil] at q
  exact q _ _ (Kp.refl _ _) (.tup ha ra)
section
variable {P : Program} {w : World} {K : PySem.W.Frag} {mg : Str → Option Value} {base : Heap} {f : Addr} {fd : FuncData}
def endsR (last : Int) : Rec := ([ro "load" [0, 1], ro "set" [1, last], ro "same" [0, 0, 1]], 0)
def countsR : Rec := ([ro "load" [5, 1], ro "set" [3, 1], ro "add" [4, 5, 3]], 4)
theorem ends_good {m last : Int} (hm : 2 ≤ m) (hl : 0 ≤ last ∧ last ≤ 999999) : GoodRec m (endsR last) := by
  refine ⟨(show 3 ≤ 3 by decide), fun i row e => ?_, by simp [endsR, tgt, ro], (show (0 : Int) ≤ 0 by decide), (show (0 : Int) < 24 by decide)⟩
  match i, e with
  | 0, e => cases e; exact .inr (.inl ⟨0, 1, rfl, by decide, by decide, by omega⟩)
  | 1, e => cases e; exact .inl ⟨1, last, rfl, by decide, hl.1, hl.2⟩
  | 2, e =>
    cases e
    refine .inr (.inr ⟨"same", 0, [0, 1], rfl, by decide, .inr (by decide +kernel), by decide +kernel, fun s hs => ?_⟩)
    simp only [List.mem_cons, List.not_mem_nil, or_false] at hs
    rcases hs with rfl | rfl
    · exact ⟨by decide, by simp [tgt, ro, endsR]⟩
    · exact ⟨by decide, by simp [tgt, ro, endsR]⟩
  | i + 3, e => simp [endsR] at e
theorem counts_good {m : Int} (hm : 2 ≤ m) : GoodRec m countsR := by
  refine ⟨by decide, fun i row e => ?_, by simp [countsR, tgt, ro], by decide, by decide⟩
  match i, e with
  | 0, e => cases e; exact .inr (.inl ⟨5, 1, rfl, by decide, by decide, by omega⟩)
  | 1, e => cases e; exact .inl ⟨3, 1, rfl, by decide, by decide, by decide⟩
  | 2, e =>
    cases e
    refine .inr (.inr ⟨"add", 4, [5, 3], rfl, by decide, .inr (by decide +kernel), by decide +kernel, fun s hs => ?_⟩)
    simp only [List.mem_cons, List.not_mem_nil, or_false] at hs
    rcases hs with rfl | rfl
    · exact ⟨by decide, by simp [tgt, ro, countsR]⟩
    · exact ⟨by decide, by simp [tgt, ro, countsR]⟩
  | i + 3, e => simp [countsR] at e
theorem run_recipe {σ : L2.St} {H : Hp} {ta tb tc : TE} {E : XK} {Q : VK} {d c : Addr} {n : Nat} {m : Int} (ha : EvV ta σ H (.ref d)) (hb : EvD tb σ H (.int m)) (hc : EvD tc σ H (.int 3)) (D : Deck H d c n) (hn : n ≤ 800000) (hm : 1 ≤ m ∧ m ≤ 1000) (q : ∀ (r : Rec) v H1, GoodRec m r → Kp [d, c] H H1 → Deck H1 d c (n + 30) → TD H1 v (recD r) → Q v H1) :
    tCall sp__law_recipe [] E (tCons ta (tCons tb (tCons tc tNil))) σ H Q :=
  ha H (Kp.refl _ _) _ fun H1 k1 => ev_i hb H1 k1 _ fun H2 k2 => ev_i hc H2 (k1.trans k2) _ fun H3 k3 => ⟨d, c, n, m, rfl, D.kp0 ((k1.trans k2).trans k3), hn, hm, fun r v H4 hr k4 D4 t4 => q r v H4 hr (((k1.trans k2).trans k3).wid.trans k4) D4 t4⟩
abbrev s__law_counter : Stmt := top 91
theorem sc__law_counter : FnScope ["_law_deck_here", "_law_most", "_law_more", "_law_many", "_law_last", "_law_ends", "_law_counts", "_law_given", "_law_k"] ["_law_deck_here", "_law_most", "_law_more"] (defScope s__law_counter) := ⟨rfl, rfl, rfl, by decide +kernel, rfl, by decide +kernel, by decide +kernel⟩
def sp__law_counter : Sp := fun vs H Q _ => ∃ (d c : Addr) (n : Nat), vs = [.ref d, .int 6, .int 2] ∧ Deck H d c n ∧ n ≤ 500000 ∧ ∀ (rs : List Rec) (ws : List Int) v H', (2 ≤ rs.length ∧ GoodRecs rs) → ws.length = rs.length → (∀ x ∈ ws, wOk x) → Kp [d, c] H H' → Deck H' d c (n + 100) → TD H' v (.tuple [recsD rs, .tuple (ws.map PyData.int)]) → Q v H'
theorem ok__law_counter (F : At K mg "_law_counter" "_law_counter" s__law_counter ["_law_deck_here", "_law_most", "_law_more"] f fd) (T : Txt K mg) (g__law_draw : GF P w K mg base 1 "_law_draw" ["_law_deck_here", "_law_many"] sp__law_draw) (g__law_word : GF P w K mg base 3 "_law_word" ["_law_deck_here"] sp__law_word)
    (g__law_recipe : GF P w K mg base 4 "_law_recipe" ["_law_deck_here", "_law_many", "_law_most"] sp__law_recipe) : FnOk P w K mg base CX0 5 f fd ["_law_deck_here", "_law_most", "_law_more"] sp__law_counter := by
  refine F.fn.ok sc__law_counter (fun vs H Q E h => ?_) (fun cdv A0 outer s H vs Q E hr h => ?_)
  · obtain ⟨d, c, n, rfl, _⟩ := h
    rfl
  · obtain ⟨d, c, n, rfl, D, hn, q⟩ := h
    refine ⟨_, (pss_cons (ps_asg (pe_tup (pa_cons (pe_op op_add pe_int (pe_gf g__law_draw (hr.mono (by decide)) rfl (pa_cons (pv 0) (pa_cons (pe_op op_add (pv 2) pe_int) pa_nil)))) (pa_cons (pe_gf g__law_draw (hr.mono (by decide)) rfl (pa_cons (pv 0) (pa_cons (pv 1) pa_nil))) pa_nil))) (pg_tup rfl (pgs_cons (pg_name (i := 3) sc__law_counter.nd rfl (Or.inr rfl)) (pgs_cons (pg_name (i := 4) sc__law_counter.nd rfl (Or.inl rfl)) pgs_nil))))
      (pss_cons (ps_set (i := 5) sc__law_counter.nd rfl (Or.inl rfl) (pe_tup (pa_cons (pe_tup (pa_cons (pe_tup (pa_cons pe_str (pa_cons pe_int (pa_cons pe_int pa_nil)))) (pa_cons (pe_tup (pa_cons pe_str (pa_cons pe_int (pa_cons (pv 4) pa_nil)))) (pa_cons (pe_tup (pa_cons pe_str (pa_cons pe_int (pa_cons pe_int (pa_cons pe_int pa_nil))))) pa_nil)))) (pa_cons pe_int pa_nil))))
      (pss_cons (ps_set (i := 6) sc__law_counter.nd rfl (Or.inl rfl) (pe_tup (pa_cons (pe_tup (pa_cons (pe_tup (pa_cons pe_str (pa_cons pe_int (pa_cons pe_int pa_nil)))) (pa_cons (pe_tup (pa_cons pe_str (pa_cons pe_int (pa_cons pe_int pa_nil)))) (pa_cons (pe_tup (pa_cons pe_str (pa_cons pe_int (pa_cons pe_int (pa_cons pe_int pa_nil))))) pa_nil)))) (pa_cons pe_int pa_nil))))
      (pss_cons (ps_set (i := 7) sc__law_counter.nd rfl (Or.inl rfl) (pe_op op_catT (pe_tup (pa_cons (pv 5) (pa_cons (pv 6) pa_nil))) (pe_callTy call_tuple_of rfl T.f_tuple (by decide +kernel) (pa_cons (pe_lc (own := [("_law_k", 8)]) rfl sc__law_counter.nd (pi_range1 rfl T.f_range (pa_cons (pe_op op_sub (pv 3) pe_int) pa_nil)) (blkOk_by (own := [("_law_k", 8)]) (N := ["_law_deck_here", "_law_most", "_law_more", "_law_many", "_law_last", "_law_ends", "_law_counts", "_law_given", "_law_k"]) (sc := defScope (top 91)) (by decide +kernel)) (fun _ _ _ _ _ => (pg_name (i := 8) sc__law_counter.nd rfl (Or.inl rfl))) (fun _ _ _ _ _ => pts_nil) (fun _ _ _ _ _ => (pe_gf g__law_recipe (hr.mono (by decide)) rfl (pa_cons (pv 0) (pa_cons (pv 3) (pa_cons pe_int pa_nil)))))) pa_nil))))
      (pss_one (ps_ret (pe_tup (pa_cons (pv 7) (pa_cons (pe_op op_catT (pe_tup (pa_cons pe_int (pa_cons pe_int pa_nil))) (pe_callTy call_tuple_of rfl T.f_tuple (by decide +kernel) (pa_cons (pe_lc (own := [("_law_k", 8)]) rfl sc__law_counter.nd (pi_range1 rfl T.f_range (pa_cons (pe_op op_sub (pv 3) pe_int) pa_nil)) (blkOk_by (own := [("_law_k", 8)]) (N := ["_law_deck_here", "_law_most", "_law_more", "_law_many", "_law_last", "_law_ends", "_law_counts", "_law_given", "_law_k"]) (sc := defScope (top 91)) (by decide +kernel)) (fun _ _ _ _ _ => (pg_name (i := 8) sc__law_counter.nd rfl (Or.inl rfl))) (fun _ _ _ _ _ => pts_nil) (fun _ _ _ _ _ => (pe_gf g__law_word (hr.mono (by decide)) rfl (pa_cons (pv 0) pa_nil)))) pa_nil))) pa_nil))))))))), ?_⟩
    show tSeq _ _ _ _ _
    refine run_draw (ev_var rfl) (ed_add (ed_var rfl (.int 2)) ed_i) D (by omega) ⟨by decide, by decide⟩ fun i1 H1 hi1 k1 D1 => ⟨_, _, rfl, rfl, ?_⟩
    refine run_draw (ev_var rfl) (ed_var rfl (.int 6)) D1 (by omega) ⟨by decide, by decide⟩ fun last H2 hlast k2 D2 => ?_
    refine ⟨(show 2 ≤ sizeLine by decide), fun p hp => ?_⟩
    have kp := Kp.new (S := []) (o := .tup [V.int (2 + i1), .int last]) hp
    refine ⟨p, _, rfl, SqT.of upd_same, rfl, ⟨_, _, rfl, ⟨_, _, rfl, rfl, ?_⟩⟩⟩
    have D3 := D2.kp0 kp
    have k03 : Kp [d, c] H (upd H2 p (.tup [V.int (2 + i1), .int last])) := (k1.trans k2).trans kp.wid
    generalize upd H2 p (.tup [V.int (2 + i1), .int last]) = H3 at D3 k03
    clear kp
    obtain ⟨mm, hmm⟩ : ∃ mm : Nat, i1 = mm := Int.eq_ofNat_of_zero_le hi1.1
    subst hmm
    have hm3 : mm < 3 := by have := hi1.2; omega
    try dsimp only
    refine sd_set (d := recD (endsR last)) (ed_tup (eds_cons (ed_tup (eds_cons (ed_tup (eds_cons ed_s (eds_cons ed_i (eds_cons ed_i eds_nil)))) (eds_cons (ed_tup (eds_cons ed_s (eds_cons ed_i (eds_cons (ed_var rfl (.int last)) eds_nil)))) (eds_cons (ed_tup (eds_cons ed_s (eds_cons ed_i (eds_cons ed_i (eds_cons ed_i eds_nil))))) eds_nil)))) (eds_cons ed_i eds_nil))) fun v4 H4 k4 t4 => ?_
    try dsimp only
    refine sd_set (d := recD countsR) (ed_tup (eds_cons (ed_tup (eds_cons (ed_tup (eds_cons ed_s (eds_cons ed_i (eds_cons ed_i eds_nil)))) (eds_cons (ed_tup (eds_cons ed_s (eds_cons ed_i (eds_cons ed_i eds_nil)))) (eds_cons (ed_tup (eds_cons ed_s (eds_cons ed_i (eds_cons ed_i (eds_cons ed_i eds_nil))))) eds_nil)))) (eds_cons ed_i eds_nil))) fun v5 H5 k5 t5 => ?_
    try dsimp only
    have k05 := k03.trans (k4.trans k5).wid
    have D5 := D3.kp0 (k4.trans k5)
    have hS : ∀ {H : Hp} {n : Nat}, Deck H d c n → ∀ b ∈ [d, c], ∃ o, H b = some o := fun D b hb => by
      simp only [List.mem_cons, List.not_mem_nil, or_false] at hb
      rcases hb with rfl | rfl
      · exact D.at.1
      · exact D.at.2
    have hIx : ∀ {H : Hp} {m : Nat}, Deck H d c m → ∀ (n : Nat) (i : Nat) (D : Addr) (H1 H2 : Hp), H D = none → Deck H1 d c n → Kp [D] H1 H2 → Deck H2 d c n := fun DH n i D H1 H2 hD D1 kk => by
      have h1 := DH.at.1
      have h2 := DH.at.2
      exact D1.kp kk (fun z => by rw [← List.mem_singleton.mp z, ] at hD; obtain ⟨o, ho⟩ := h1; rw [ho] at hD; cases hD) (fun z => by rw [← List.mem_singleton.mp z] at hD; obtain ⟨o, ho⟩ := h2; rw [ho] at hD; cases hD)
    have hmx : ((2 + (mm : Int)) - 2) = (mm : Nat) := by omega
    show tSeq _ _ _ _ _
    refine st_asg ?_
    -- (ends, counts)
    refine (ed_tup (σ := [some (.ref d), some (.int 6), some (.int 2), some (.int (2 + (mm : Int))), some (.int last), some v4, some v5, none, none]) (eds_cons (ed_var (i := 5) rfl (t4.kp k5)) (eds_cons (ed_var (i := 6) rfl t5) eds_nil))) H5 (Kp.refl _ _) _ fun v6 H6 k6 t6 => ?_
    obtain ⟨a6, xs6, rfl, ea6, ra6⟩ := t6.tupI
    have D6 := D5.kp0 k6
    refine cb1_s ?_
    refine el_lcS (S := [d, c]) (I := fun i H => Deck H d c (n + 2 + 30 * i)) (Good := fun _ dd => ∃ r, GoodRec (2 + (mm : Int)) r ∧ dd = recD r) (f := fun i => .int (0 + (i : Nat))) (ei_rangeF (n := mm) (ed_sub (ed_var (i := 3) rfl (.int _)) ed_i) hmx (by omega)) yfn (by omega) (fun _ => rfl) (hS D6)
      (fun H1 k => (D6.kp0 k).up (by omega)) (fun i D H1 H2 hD D1 kk => hIx D6 _ i D H1 H2 hD D1 kk) (fun i H1 hi k1 D1 Q1 q1 => ?_) fun L us ds H7 hL k7 eL tL lL gL D7 => ?_
    · refine run_recipe (ev_var rfl) (ed_var (i := 3) rfl (.int _)) ed_i D1 (by omega) (by omega) fun r v H2 hr k2 D2 t2 => q1 v _ H2 k2 (D2.up (by omega)) t2 ⟨r, hr, rfl⟩
    obtain ⟨rs1, rfl, hrs1⟩ := all_of gL
    refine ⟨L, us, rfl, .inl ⟨SqL.of eL, fun p8 hp8 => ?_⟩⟩
    have kt8 := Kp.new_tup hp8 tL
    have k68 := k7.trans kt8.1.wid
    refine catT_fin (k68.tup a6 _ ea6) upd_same (ra6.kp k68) (tL.kp kt8.1) (fun z => by rw [z] at ra6; cases ra6) (by simp at lL ⊢; omega) fun v9 H9 k9 t9 => ?_
    try dsimp only
    have D9 := (D7.kp0 kt8.1).kp0 k9
    have k09 : Kp [d, c] H H9 := ((k05.trans k6.wid).trans k68).trans k9.wid
    -- the end
    refine ret_tup2 ?_
    refine ⟨_, rfl, ?_⟩
    refine (ed_tup (σ := [some (.ref d), some (.int 6), some (.int 2), some (.int (2 + (mm : Int))), some (.int last), some v4, some v5, some v9, none]) (eds_cons (ed_i (x := 0)) (eds_cons (ed_i (x := 0)) eds_nil))) H9 (Kp.refl _ _) _ fun v10 H10 k10 t10 => ?_
    obtain ⟨a10, xs10, rfl, ea10, ra10⟩ := t10.tupI
    have D10 := D9.kp0 k10
    refine cb1_s ?_
    refine el_lcS (S := [d, c]) (I := fun i H => Deck H d c (n + 2 + 30 * mm + 4 * i)) (Good := fun _ dd => ∃ x, wOk x ∧ dd = PyData.int x) (f := fun i => .int (0 + (i : Nat))) (ei_rangeF (n := mm) (ed_sub (ed_var (i := 3) rfl (.int _)) ed_i) hmx (by omega)) yfn (by omega) (fun _ => rfl) (hS D10)
      (fun H1 k => (D10.kp0 k).up (by omega)) (fun i D H1 H2 hD D1 kk => hIx D10 _ i D H1 H2 hD D1 kk) (fun i H1 hi k1 D1 Q1 q1 => ?_) fun L2' us2 ds2 H11 hL2 k11 eL2 tL2 lL2 gL2 D11 => ?_
    · refine run_word (ev_var rfl) D1 (by omega) fun x H2 hx k2 D2 => q1 _ _ H2 k2 (D2.up (by omega)) (.int x) ⟨x, hx, rfl⟩
    obtain ⟨ws1, rfl, hws1⟩ := all_of gL2
    refine ⟨L2', us2, rfl, .inl ⟨SqL.of eL2, fun p12 hp12 => ?_⟩⟩
    have kt12 := Kp.new_tup hp12 tL2
    have k1012 := k11.trans kt12.1.wid
    refine catT_fin (k1012.tup a10 _ ea10) upd_same (ra10.kp k1012) (tL2.kp kt12.1) (fun z => by rw [z] at ra10; cases ra10) (by simp at lL2 ⊢; omega) fun v13 H13 k13 t13 => ?_
    refine ⟨(show 2 ≤ sizeLine by decide), fun p14 hp14 => ?_⟩
    have k913 : Kp [d, c] H9 H13 := (k10.wid.trans k1012).trans k13.wid
    have kt14 := Kp.new_tup hp14 (.cons (t9.kp k913) (.cons t13 .nil))
    rw [List.length_map] at lL lL2
    refine q (endsR last :: countsR :: rs1) (0 :: 0 :: ws1) _ _ ⟨by simp, ⟨by simp; omega, fun r hr => ?_⟩⟩ (by simp; omega) (fun x hx => ?_) ((k09.trans k913).trans kt14.1.wid) (((D11.kp0 kt12.1).kp0 k13).kp0 kt14.1 |>.up (by omega)) kt14.2
    · have hlen : ((endsR last :: countsR :: rs1).length : Int) = 2 + mm := by simp; omega
      rw [hlen]
      rcases List.mem_cons.mp hr with rfl | hr
      · exact ends_good (by omega) ⟨hlast.1, by omega⟩
      · rcases List.mem_cons.mp hr with rfl | hr
        · exact counts_good (by omega)
        · exact hrs1 r hr
    · rcases List.mem_cons.mp hx with rfl | hx
      · exact ⟨by decide, by decide⟩
      · rcases List.mem_cons.mp hx with rfl | hx
        · exact ⟨by decide, by decide⟩
        · exact hws1 x hx
end
end Sr
/-! The law's faults. -/
namespace Sr
open PySem PySem.Spec PyProof.Rows L2
section
variable {P : Program} {w : World} {K : PySem.W.Frag} {mg : Str → Option Value} {base : Heap} {f : Addr} {fd : FuncData}
theorem Deck.ring {H : Hp} {d c ring C : Addr} {n : Nat} {rs : List Rec} {e : Int} {k : Nat} (D : Deck H d c n) (ro_ : RingO H C ring rs e k) : ring ≠ d ∧ ring ≠ c := by
  obtain ⟨cells, mixed, count, e1, e2, _⟩ := D.ex
  obtain ⟨dx, v, u, w, er, _⟩ := ro_.ex
  exact ⟨ne_of er e1 fun z => HO.noConfusion z, ne_of er e2 fun z => HO.noConfusion z⟩
theorem pieceAt_0 {rs : List Rec} {e : Int} {k : Nat} (g : RingG rs e k) : (pieceAt rs e k 0).2.2 = 0 := by
  have h1 := lenP_b g.rs
  have h2 := g.k
  have h3 : 0 < lenP rs * (k : Int) := Int.mul_pos (by omega) (by omega)
  unfold pieceAt
  rw [if_pos (by omega)]
  exact Int.zero_emod _
abbrev s__law_fault : Stmt := top 92
theorem sc__law_fault : FnScope ["_law_deck_here", "_law_ring", "_law_count", "_law_many", "_law_way", "_law_far", "_law_store", "_law_spot", "_law_row"] ["_law_deck_here", "_law_ring", "_law_count", "_law_many"] (defScope s__law_fault) := ⟨rfl, rfl, rfl, by decide +kernel, rfl, by decide +kernel, by decide +kernel⟩
def sp__law_fault (K : PySem.W.Frag) : Sp := fun vs H Q _ => ∃ (d c ring : Addr) (n : Nat) (rs : List Rec) (e : Int) (k : Nat), vs = [.ref d, .ref ring, .int k, .int rs.length] ∧ Deck H d c n ∧ n ≤ 600000 ∧ RingO H (cR K) ring rs e k ∧ RingG rs e k ∧
  ∀ (fl : Flt) v H', FltOk (wordsN rs k) (ringR rs e k).length fl → Kp [d, c] H H' → Deck H' d c (n + 20) → TD H' v (rowD fl) → Q v H'
theorem ok__law_fault (F : At K mg "_law_fault" "_law_fault" s__law_fault ["_law_deck_here", "_law_ring", "_law_count", "_law_many"] f fd) (T : Txt K mg) (RT : RingT K) (g__law_draw : GF P w K mg base 1 "_law_draw" ["_law_deck_here", "_law_many"] sp__law_draw) (g__law_pick : GF P w K mg base 2 "_law_pick" ["_law_deck_here", "_law_items"] sp__law_pick)
    (g__law_word : GF P w K mg base 3 "_law_word" ["_law_deck_here"] sp__law_word) (m_len : GM P w K mg base 1 (cR K) "__len__" ["self"] (sp_Ring_len (cR K))) (m_piece_at : GM P w K mg base 1 (cR K) "piece_at" ["self", "row"] (sp_Ring_piece_at (cR K))) :
    FnOk P w K mg base CX0 4 f fd ["_law_deck_here", "_law_ring", "_law_count", "_law_many"] (sp__law_fault K) := by
  refine F.fn.ok sc__law_fault (fun vs H Q E h => ?_) (fun cdv A0 outer s H vs Q E hr h => ?_)
  · obtain ⟨d, c, ring, n, rs, e, k, rfl, _⟩ := h
    rfl
  · obtain ⟨d, c, ring, n, rs, e, k, rfl, D, hn, ro_, hg, q⟩ := h
    refine ⟨_, (pss_cons (ps_par (i := 4) (j := 5) rfl sc__law_fault.nd rfl rfl (by decide) rfl rfl (pa_cons (pe_gf g__law_draw (hr.mono (by decide)) rfl (pa_cons (pv 0) (pa_cons pe_int pa_nil))) (pa_cons (pe_callB (r := rLenO (cR K) (sp_Ring_len (cR K))) (call_lenO m_len (hr.mono (by decide))) rfl T.f_len PySem.boot_len (pa_cons (pv 1) pa_nil)) pa_nil)) rfl)
      (pss_cons (ps_if (pt_cmpR op_eq (pv 4) pe_int (nomark _)) (pss_cons (ps_set (i := 6) sc__law_fault.nd rfl (Or.inl rfl) (pe_op op_add (pe_op op_mul pe_int (pe_gf g__law_draw (hr.mono (by decide)) rfl (pa_cons (pv 0) (pa_cons (pv 2) pa_nil)))) (pe_gf g__law_draw (hr.mono (by decide)) rfl (pa_cons (pv 0) (pa_cons pe_int pa_nil)))))
      (pss_cons (ps_set (i := 7) sc__law_fault.nd rfl (Or.inl rfl) (pe_gf g__law_pick (hr.mono (by decide)) rfl (pa_cons (pv 0) (pa_cons (pe_lst (pa_cons pe_int (pa_cons pe_int (pa_cons (pe_op op_add (pv 3) pe_int) (pa_cons (pe_gf g__law_draw (hr.mono (by decide)) rfl (pa_cons (pv 0) (pa_cons (pe_op op_add (pv 3) pe_int) pa_nil))) pa_nil))))) pa_nil))))
      (pss_one (ps_ret (pe_tup (pa_cons pe_str (pa_cons (pe_op op_add (pe_op op_mul (pv 6) (pe_op op_add (pv 3) pe_int)) (pv 7)) (pa_cons (pe_gf g__law_pick (hr.mono (by decide)) rfl (pa_cons (pv 0) (pa_cons (pe_lst (pa_cons pe_int (pa_cons pe_int (pa_cons pe_int (pa_cons pe_int (pa_cons pe_int (pa_cons (pe_gf g__law_word (hr.mono (by decide)) rfl (pa_cons (pv 0) pa_nil)) pa_nil))))))) pa_nil))) pa_nil)))))))) pss_nil)
      (pss_cons (ps_if (pt_cmpR op_eq (pv 4) pe_int (nomark _)) (pss_one (ps_ret (pe_tup (pa_cons pe_str (pa_cons (pe_gf g__law_pick (hr.mono (by decide)) rfl (pa_cons (pv 0) (pa_cons (pe_lst (pa_cons pe_int (pa_cons pe_int (pa_cons pe_int (pa_cons pe_int (pa_cons pe_int (pa_cons pe_int (pa_cons (pe_gf g__law_draw (hr.mono (by decide)) rfl (pa_cons (pv 0) (pa_cons pe_int pa_nil))) pa_nil)))))))) pa_nil))) (pa_cons (pe_gf g__law_pick (hr.mono (by decide)) rfl (pa_cons (pv 0) (pa_cons (pe_lst (pa_cons pe_int (pa_cons pe_int (pa_cons pe_int pa_nil)))) pa_nil))) pa_nil)))))) pss_nil)
      (pss_cons (ps_set (i := 8) sc__law_fault.nd rfl (Or.inl rfl) (pe_gf g__law_draw (hr.mono (by decide)) rfl (pa_cons (pv 0) (pa_cons (pv 5) pa_nil))))
      (pss_cons (ps_while PassesOwn.never (PW.pt (pw_and (pt_cmpR op_eq (pv 4) pe_int (nomark _)) (pw_and1 (pt_cmpR op_gt (pe_ix (r := rIxT K) ix_tup (pe_gm m_piece_at (hr.mono (by decide)) (pv 1) (pa_cons (pv 8) pa_nil)) pe_int (fun _ _ => rfl)) pe_int (nomark _))))) (pss_one (ps_set (i := 8) sc__law_fault.nd rfl (Or.inl rfl) (pe_op op_sub (pv 8) pe_int))))
      (pss_one (ps_ret (pe_tup (pa_cons pe_str (pa_cons (pv 8) pa_nil)))))))))), ?_⟩
    have hgn := hg.rs.1
    have hgk := hg.k
    have hL := ringR_len hg
    have hLp : 1 ≤ (ringR rs e k).length := by
      have h1 := lenP_b hg.rs
      have h2 := lenQ_b rs e hgk.2
      have h3 := ringR_eq (rs := rs) (e := e) (k := k)
      have h4 : 0 < lenP rs * (k : Int) := Int.mul_pos (by omega) (by omega)
      have h5 : 0 < lenQ rs e k * (k : Int) := Int.mul_pos (by omega) (by omega)
      omega
    obtain ⟨nr1, nr2⟩ := D.ring ro_
    have out : ring ∉ [d, c] := fun z => by simp at z; exact z.elim nr1 nr2
    show tSeq _ _ _ _ _
    refine run_draw (ev_var rfl) ed_i D (by omega) ⟨by decide, by decide⟩ fun way H1 hway k1 D1 => ?_
    have ro1 := ro_.kp k1 out
    refine (ed_lenO (C := cR K) (σ := L2.start ["_law_deck_here", "_law_ring", "_law_count", "_law_many", "_law_way", "_law_far", "_law_store", "_law_spot", "_law_row"] [.ref d, .ref ring, .int k, .int rs.length]) (ev_var (i := 1) rfl) ro1 hg) H1 (Kp.refl _ _) _ fun v2 H2 k2 t2 => ?_
    cases t2
    refine ⟨_, _, rfl, ?_⟩
    have D2 := D1.kp0 k2
    have ro2 := ro1.kp k2 fun z => nomatch z
    have k02 := k1.trans k2.wid
    try dsimp only
    show tSeq _ _ _ _ _
    refine st_if (et_eqI (ed_var rfl (.int way)) ed_i) (fun hw H3 k3 => ?_) fun hw H3 k3 => ?_
    · have D3 := D2.kp0 k3
      show tSeq _ _ _ _ _
      refine run_draw (ev_var rfl) (ed_var rfl (.int k)) D3 (by omega) (by omega) fun a H4 ha k4 D4 => ⟨_, _, rfl, rfl, .inl ⟨by decide, by decide⟩, ?_⟩
      refine run_draw (ev_var rfl) ed_i D4 (by omega) ⟨by decide, by decide⟩ fun b H5 hb k5 D5 => ⟨_, _, rfl, rfl, ?_⟩
      try dsimp only
      show tSeq _ _ _ _ _
      refine run_pickN (c := c) (ev_var rfl) fun H6 k6 R r => ?_
      refine ⟨_, rfl, _, _, rfl, rfl, ?_⟩
      refine run_draw (ev_var rfl) (ed_add (ed_var rfl (.int (rs.length : Int))) ed_i) (D5.kp0 k6) (by omega) (by omega) fun x H7 hx k7 D7 => ?_
      refine r [.int 0, .int 1, .int ((rs.length : Int) + 1), .int x] H7 _ (fun z => nomatch z) (by simp) D7 (by omega) fun v H8 hv k8 D8 => ?_
      obtain ⟨sp, rfl, hsp⟩ : ∃ sp : Int, v = .int sp ∧ 0 ≤ sp ∧ sp < (rs.length : Int) + 2 := by
        simp only [List.mem_cons, List.not_mem_nil, or_false] at hv
        rcases hv with rfl | rfl | rfl | rfl
        · exact ⟨_, rfl, by omega, by omega⟩
        · exact ⟨_, rfl, by omega, by omega⟩
        · exact ⟨_, rfl, by omega, by omega⟩
        · exact ⟨_, rfl, hx⟩
      try dsimp only
      have k08 : Kp [d, c] H H8 := (((((k02.trans k3.wid).trans k4).trans k5).trans k6.wid).trans k7).trans k8
      refine ⟨_, rfl, _, rfl, _, _, rfl, rfl, _, _, rfl, rfl, .inl ⟨by omega, by omega⟩, _, rfl, _, _, rfl, rfl, ?_⟩
      refine run_pickN (c := c) (ev_var rfl) fun H9 k9 R r => ?_
      refine run_word (ev_var rfl) (D8.kp0 k9) (by omega) fun y H10 hy k10 D10 => ?_
      refine r [.int 0, .int 1, .int 2, .int 3, .int 999999, .int y] H10 _ (fun z => nomatch z) (by simp) D10 (by omega) fun v H11 hv k11 D11 => ?_
      obtain ⟨x2, rfl, hx2⟩ : ∃ x2 : Int, v = .int x2 ∧ wOk x2 := by
        simp only [List.mem_cons, List.not_mem_nil, or_false] at hv
        rcases hv with rfl | rfl | rfl | rfl | rfl | rfl
        · exact ⟨_, rfl, by decide, by decide⟩
        · exact ⟨_, rfl, by decide, by decide⟩
        · exact ⟨_, rfl, by decide, by decide⟩
        · exact ⟨_, rfl, by decide, by decide⟩
        · exact ⟨_, rfl, by decide, by decide⟩
        · exact ⟨_, rfl, hy⟩
      refine ⟨(show 3 ≤ sizeLine by decide), fun p hp => ?_⟩
      have kt := Kp.new_tup (xs := [.str "word", .int ((4 * a + b) * ((rs.length : Int) + 2) + sp), .int x2]) (ds := [.str "word", .int ((4 * a + b) * ((rs.length : Int) + 2) + sp), .int x2]) hp (.cons (.str _) (.cons (.int _) (.cons (.int _) .nil)))
      refine q (ro "word" [(4 * a + b) * ((rs.length : Int) + 2) + sp, x2]) _ _ (.inl ⟨_, _, rfl, ⟨?_, ?_⟩, hx2⟩) ((((k08.trans k9.wid).trans k10).trans k11).trans kt.1.wid) ((D11.kp0 kt.1).up (by omega)) kt.2
      · have : 0 ≤ (4 * a + b) * ((rs.length : Int) + 2) := Int.mul_nonneg (by omega) (by omega)
        omega
      · have h1 : (4 * a + b) * ((rs.length : Int) + 2) ≤ (4 * (k : Int) - 1) * ((rs.length : Int) + 2) := Int.mul_le_mul_of_nonneg_right (by omega) (by omega)
        have h2 : wordsN rs k = (4 * (k : Int) - 1) * ((rs.length : Int) + 2) + ((rs.length : Int) + 2) := by
          unfold wordsN
          rw [Int.sub_mul, Int.one_mul, Int.sub_add_cancel, Int.mul_assoc, Int.mul_assoc, Int.mul_comm ((rs.length : Int) + 2)]
        omega
    · have k03 := k02.trans k3.wid
      have D3 := D2.kp0 k3
      have ro3 := ro2.kp k3 fun z => nomatch z
      try delta tNext
      try dsimp only
      refine st_if (et_eqI (ed_var rfl (.int way)) ed_i) (fun hw2 H4 k4 => ?_) fun hw2 H4 k4 => ?_
      · have D4 := D3.kp0 k4
        refine run_pickN (c := c) (ev_var rfl) fun H5 k5 R r => ?_
        refine run_draw (ev_var rfl) ed_i (D4.kp0 k5) (by omega) ⟨by decide, by decide⟩ fun x H6 hx k6 D6 => ?_
        refine r [.int 24, .int 25, .int 26, .int 27, .int 28, .int 29, .int x] H6 _ (fun z => nomatch z) (by simp) D6 (by omega) fun v H7 hv k7 D7 => ?_
        obtain ⟨i, rfl, hi⟩ : ∃ i : Int, v = .int i ∧ 0 ≤ i ∧ i < 32 := by
          simp only [List.mem_cons, List.not_mem_nil, or_false] at hv
          rcases hv with rfl | rfl | rfl | rfl | rfl | rfl | rfl
          · exact ⟨_, rfl, by decide, by decide⟩
          · exact ⟨_, rfl, by decide, by decide⟩
          · exact ⟨_, rfl, by decide, by decide⟩
          · exact ⟨_, rfl, by decide, by decide⟩
          · exact ⟨_, rfl, by decide, by decide⟩
          · exact ⟨_, rfl, by decide, by decide⟩
          · exact ⟨_, rfl, hx⟩
        refine run_pickN (c := c) (ev_var rfl) fun H8 k8 R2 r2 => ?_
        refine r2 [.int 0, .int 1, .int 3] H8 _ (fun z => nomatch z) (by simp) (D7.kp0 k8) (by omega) fun v H9 hv k9 D9 => ?_
        obtain ⟨x2, rfl, hx2⟩ : ∃ x2 : Int, v = .int x2 ∧ wOk x2 := by
          simp only [List.mem_cons, List.not_mem_nil, or_false] at hv
          rcases hv with rfl | rfl | rfl
          · exact ⟨_, rfl, by decide, by decide⟩
          · exact ⟨_, rfl, by decide, by decide⟩
          · exact ⟨_, rfl, by decide, by decide⟩
        refine ⟨(show 3 ≤ sizeLine by decide), fun p hp => ?_⟩
        have kt := Kp.new_tup (xs := [.str "register", .int i, .int x2]) (ds := [.str "register", .int i, .int x2]) hp (.cons (.str _) (.cons (.int _) (.cons (.int _) .nil)))
        exact q (ro "register" [i, x2]) _ _ (.inr (.inl ⟨_, _, rfl, hi, hx2⟩)) (((((((k03.trans k4.wid).trans k5.wid).trans k6).trans k7).trans k8.wid).trans k9).trans kt.1.wid) ((D9.kp0 kt.1).up (by omega)) kt.2
      · have D4 := D3.kp0 k4
        have ro4 := ro3.kp k4 fun z => nomatch z
        have k04 := k03.trans k4.wid
        try delta tNext
        try dsimp only
        show tSeq _ _ _ _ _
        refine run_draw (ev_var rfl) (ed_var rfl (.int _)) D4 (by omega) (by omega) fun row H5 hrow k5 D5 => ?_
        have ro5 := ro4.kp k5 out
        try dsimp only
        refine ⟨fun m σ' H' => ∃ r : Int, m = r.toNat ∧ (0 ≤ r ∧ r < (ringR rs e k).length) ∧ Kp [] H5 H' ∧ σ' = [some (.ref d), some (.ref ring), some (.int k), some (.int rs.length), some (.int way), some (.int (ringR rs e k).length), none, none, some (.int r)], ⟨_, row, rfl, hrow, Kp.refl _ _, rfl⟩, ?_⟩
        rintro m σ' H' ⟨r, rfl, hr0, kp, rfl⟩
        have ro6 := ro5.kp kp fun z => nomatch z
        refine (et_and (et_eqI (ed_var (i := 4) rfl (.int way)) ed_i) fun _ => et_gt (ed_ixT (K := K) (ed_piece_at (ev_var (i := 1) rfl) (ed_var (i := 8) rfl (.int r)) ro6 hg) ed_i at2) ed_i) H' (Kp.refl _ _) _ fun H6 k6 => ?_
        by_cases hc : (decide (way = 2) && decide (0 < (pieceAt rs e k r).2.2)) = true
        · rw [if_pos hc]
          have hpos : 0 < (pieceAt rs e k r).2.2 := of_decide_eq_true (Bool.and_eq_true_iff.mp hc).2
          have hr1 : r ≠ 0 := fun z => by rw [z, pieceAt_0 hg] at hpos; omega
          refine ⟨fun σ'' H'' => Kp [] H5 H'' ∧ σ'' = [some (.ref d), some (.ref ring), some (.int k), some (.int rs.length), some (.int way), some (.int (ringR rs e k).length), none, none, some (.int (r - 1))], fun σ'' H'' ⟨k7, e7⟩ => ⟨(r - 1).toNat, by omega, r - 1, rfl, by omega, k7, e7⟩, ?_⟩
          refine sd_set (ed_sub (ed_var rfl (.int r)) ed_i) fun v7 H7 k7 t7 => ?_
          cases t7
          exact ⟨(kp.trans k6).trans k7, rfl⟩
        · rw [if_neg hc]
          try dsimp only
          refine sd_ret (d := rowD (ro "row" [r])) (ed_tup (eds_cons ed_s (eds_cons (ed_var rfl (.int r)) eds_nil))) fun v7 H7 k7 t7 => ?_
          have k57 := (kp.trans k6).trans k7
          exact q (ro "row" [r]) v7 H7 (.inr (.inr ⟨r, rfl, hr0⟩)) ((k04.trans k5).trans k57.wid) ((D5.kp0 k57).up (by omega)) t7
end
end Sr
/-! What the law sees of a machine. -/
namespace Sr
open PySem PySem.Spec PyProof.Rows L2
def MC (K : PySem.W.Frag) (C : Addr) : Prop := C = cM K ∨ C = cC K
abbrev RdF := List Rec → Int → Nat → MS → PyData
def seenD (rd : RdF) (rs : List Rec) (e : Int) (k : Nat) (ms : MS) : PyData := .list [memD ms, regD ms, .int ms.row, .int ms.done, .int ms.cnt, affD ms, rd rs e k ms]
def SeenB (ms : MS) : Prop := (0 ≤ ms.done ∧ ms.done < 1000000000) ∧ 0 ≤ ms.cnt ∧ ms.cnt < 1000000000
theorem Sho.words {n : Nat} {xs : List Int} (h : ∀ x ∈ xs, x.natAbs < 10 ^ 12) (hl : xs.length ≤ 1000) : Sho (n + 1) 65000 (.tuple (xs.map PyData.int)) := Sho.tup (m := 64) (fun d m => by
  obtain ⟨x, hx, rfl⟩ := List.mem_map.mp m
  exact .int (h x hx)) (by rw [List.length_map]; omega)
theorem seen_sho {rd : RdF} {rs : List Rec} {e : Int} {k : Nat} {ms : MS} {N L : Int} (ok : MSok N L ms) (hL : L ≤ 1000) (ha : ms.aff.Nodup ∧ ∀ c ∈ ms.aff, 0 ≤ c ∧ c < 5) (hb : SeenB ms) (hr : Sho 2 65000 (rd rs e k ms)) : Sho 60 1000000 (seenD rd rs e k ms) := by
  have h1 := ok.ml
  have h2 := ok.nb
  have h3 := ok.rl
  have h4 := ok.row
  have hw : ∀ {xs : List Int}, (∀ x ∈ xs, wOk x) → ∀ x ∈ xs, x.natAbs < 10 ^ 12 := fun h x m => by
    have := h x m
    unfold wOk at this
    omega
  obtain ⟨b1, b2⟩ := hb
  refine (Sho.lst (n := 2) (m := 65000) (k := 1000000) (fun d m => ?_) (by simp)).mono (by decide) (Nat.le_refl _)
  simp only [List.mem_cons, List.not_mem_nil, or_false] at m
  rcases m with rfl | rfl | rfl | rfl | rfl | rfl | rfl
  · exact Sho.words (hw ok.mw) (by omega)
  · exact Sho.words (hw ok.rw_) (by omega)
  · exact (Sho.int (n := 2) (by omega)).mono (Nat.le_refl _) (by decide)
  · exact (Sho.int (n := 2) (by omega)).mono (Nat.le_refl _) (by decide)
  · exact (Sho.int (n := 2) (by omega)).mono (Nat.le_refl _) (by decide)
  · refine Sho.words (fun x m => ?_) ?_
    · have := ha.2 x ((List.mergeSort_perm ms.aff _).mem_iff.mp m)
      omega
    · unfold sortI
      rw [List.length_mergeSort]
      have := aff_len ha
      omega
  · exact hr
section
variable {K : PySem.W.Frag} {σ : L2.St} {H : Hp} {ta : TE} {ds : List PyData}
theorem ed_reprL (ha : EvL0 ta σ H ds) (hs : Sho 60 1000000 (.list ds)) : EvD (tCB (rRepr K) (tCons ta tNil)) σ H (.str (PyData.list ds).shown) := fun H1 k Q q =>
  ha H1 k _ fun l vs H2 k2 e2 t2 => ⟨l, .list ds, rfl, .lst (SqL.of e2) t2.dp, hs, q _ H2 k2 (.str _)⟩
end
section
variable {P : Program} {w : World} {K : PySem.W.Frag} {mg : Str → Option Value} {base : Heap} {f : Addr} {fd : FuncData}
abbrev s__law_seen : Stmt := top 95
theorem sc__law_seen : FnScope ["_law_machine", "_law_found"] ["_law_machine"] (defScope s__law_seen) := ⟨rfl, rfl, rfl, by decide +kernel, rfl, by decide +kernel, by decide +kernel⟩
def sp__law_seen (K : PySem.W.Frag) (rd : RdF) : Sp := fun vs H Q _ => ∃ (C p ring M G A : Addr) (rs : List Rec) (e : Int) (k : Nat) (ms : MS) (st : Option (List (Int × Flt))), vs = [.ref p] ∧ MC K C ∧ MachR K H C p ring M G A rs e k ms st ∧ SeenB ms ∧ ∀ H', Kp [] H H' → Q (.str (seenD rd rs e k ms).shown) H'
theorem ok__law_seen {rd : RdF} (hrd : ∀ rs e k ms, RingG rs e k → MSok (wordsN rs k) (ringR rs e k).length ms → Sho 2 65000 (rd rs e k ms)) (F : At K mg "_law_seen" "_law_seen" s__law_seen ["_law_machine"] f fd) (T : Txt K mg)
    (P_memory : ∀ C, MC K C → GP P w K mg base 1 C "memory" (sp_MD K C fun _ _ _ ms => memD ms)) (P_registers : ∀ C, MC K C → GP P w K mg base 1 C "registers" (sp_MD K C fun _ _ _ ms => regD ms)) (P_row : ∀ C, MC K C → GP P w K mg base 1 C "row" (sp_MD K C fun _ _ _ ms => .int ms.row))
    (P_executed : ∀ C, MC K C → GP P w K mg base 1 C "executed" (sp_MD K C fun _ _ _ ms => .int ms.done)) (P_fault_count : ∀ C, MC K C → GP P w K mg base 1 C "fault_count" (sp_MD K C fun _ _ _ ms => .int ms.cnt)) (P_affected : ∀ C, MC K C → GP P w K mg base 1 C "affected" (sp_MD K C fun _ _ _ ms => affD ms))
    (P_reading : ∀ C, MC K C → GP P w K mg base 8 C "reading" (sp_MD K C rd)) : FnG P w K mg base 10 f fd ["_law_machine"] (sp__law_seen K rd) := by
  refine fnG F.fn sc__law_seen (fun vs H Q E h => ?_) (fun cdv A0 outer s H vs Q E hg0 hr h => ?_)
  · obtain ⟨C, p, ring, M, G, A, rs, e, k, ms, st, rfl, _⟩ := h
    rfl
  · obtain ⟨C, p, ring, M, G, A, rs, e, k, ms, st, rfl, hC, m, hb, q⟩ := h
    have p_memory := P_memory C hC
    have p_registers := P_registers C hC
    have p_row := P_row C hC
    have p_executed := P_executed C hC
    have p_fault_count := P_fault_count C hC
    have p_affected := P_affected C hC
    have p_reading := P_reading C hC
    refine ⟨_, (pss_cons (ps_set (i := 1) sc__law_seen.nd rfl (Or.inl rfl) (pe_lst (pa_cons (pe_gp p_memory (hr.mono (by decide)) (pv 0)) (pa_cons (pe_gp p_registers (hr.mono (by decide)) (pv 0)) (pa_cons (pe_gp p_row (hr.mono (by decide)) (pv 0)) (pa_cons (pe_gp p_executed (hr.mono (by decide)) (pv 0)) (pa_cons (pe_gp p_fault_count (hr.mono (by decide)) (pv 0)) (pa_cons (pe_gp p_affected (hr.mono (by decide)) (pv 0)) pa_nil))))))))
      (pss_one (ps_ret (pe_callB (call_reprD hg0 hr) rfl T.f_repr (by decide +kernel) (pa_cons (pe_op op_cat (pv 1) (pe_lst (pa_cons (pe_gp p_reading (hr.mono (by decide)) (pv 0)) pa_nil))) pa_nil))))), ?_⟩
    obtain ⟨tl, mi, _⟩ := m.ex
    have hL := ringR_len mi.g
    have hs := seen_sho (e := e) (k := k) (rs := rs) mi.ok (by omega) m.aff hb (hrd rs e k ms mi.g mi.ok)
    refine sl_set (ds := [memD ms, regD ms, .int ms.row, .int ms.done, .int ms.cnt, affD ms]) (el_lst (eds_cons (ed_MD (ev_var rfl) m) (eds_cons (ed_MD (ev_var rfl) m) (eds_cons (ed_MD (ev_var rfl) m) (eds_cons (ed_MD (ev_var rfl) m) (eds_cons (ed_MD (ev_var rfl) m) (eds_cons (ed_MD (ev_var rfl) m) eds_nil)))))) (show 6 ≤ 100000 by decide)) fun l us H1 hl k1 e1 t1 => ?_
    try dsimp only
    refine sd_ret (d := .str (seenD rd rs e k ms).shown) (ed_reprL (ds := [memD ms, regD ms, .int ms.row, .int ms.done, .int ms.cnt, affD ms] ++ [rd rs e k ms]) (EvL.l0 (el_cat (el0_var rfl e1 t1) (EvL.l0 (el_lst (eds_cons (ed_MD (ev_var rfl) (m.kp0 k1)) eds_nil) (show 1 ≤ 100000 by decide))) (show 6 + 1 ≤ 100000 by decide))) hs) fun v2 H2 k2 t2 => ?_
    cases t2
    exact q H2 (k1.trans k2)
end
end Sr
/-! The story told again; the rows walked. -/
namespace Sr
open PySem PySem.Spec PyProof.Rows L2
def rowsM (R : List Row) (n : Nat) (ms : MS) : List Int := (List.range n).map fun i => (runM R i ms).row
theorem stepM_row (R : List Row) (ms : MS) : (stepM R ms).row = if ms.row + 1 = R.length then 0 else ms.row + 1 := rfl
theorem runM_row {R : List Row} {ms : MS} (h : 0 ≤ ms.row ∧ ms.row < R.length) : ∀ i : Nat, (runM R i ms).row = (ms.row + i) % R.length ∧ 0 ≤ (runM R i ms).row ∧ (runM R i ms).row < R.length
  | 0 => ⟨by
      show ms.row = (ms.row + 0) % R.length
      rw [Int.add_zero, Int.emod_eq_of_lt h.1 h.2], h⟩
  | i + 1 => by
    obtain ⟨e, h0, h1⟩ := runM_row h i
    show (stepM R (runM R i ms)).row = _ ∧ 0 ≤ (stepM R (runM R i ms)).row ∧ (stepM R (runM R i ms)).row < _
    rw [stepM_row]
    have e2 : (ms.row + ((i + 1 : Nat) : Int)) % R.length = ((runM R i ms).row + 1) % R.length := by
      rw [e, Int.emod_add_emod]
      congr 1
      omega
    rw [e2]
    split
    · rename_i hc
      refine ⟨?_, by omega, by omega⟩
      rw [hc, Int.emod_self]
    · refine ⟨?_, by omega, by omega⟩
      rw [Int.emod_eq_of_lt (by omega) (by omega)]
theorem runM_add (R : List Row) (ms : MS) (a : Nat) : ∀ b : Nat, runM R (a + b) ms = runM R b (runM R a ms)
  | 0 => rfl
  | b + 1 => by
    show stepM R (runM R (a + b) ms) = stepM R (runM R b (runM R a ms))
    rw [runM_add R ms a b]
theorem runM_cnt2 (R : List Row) (ms : MS) : ∀ n : Nat, (runM R n ms).cnt = ms.cnt
  | 0 => rfl
  | n + 1 => by
    show (exec (runM R n ms) _).cnt = _
    rw [(exec_same _ _).2.2.1, runM_cnt2 R ms n]
theorem sufferM_cnt {rs : List Rec} {e : Int} {k : Nat} {ms : MS} {f : Flt} : ms.cnt ≤ (sufferM rs e k ms f).cnt ∧ (sufferM rs e k ms f).cnt ≤ ms.cnt + 1 := by
  unfold sufferM applyF noteM
  repeat' split
  all_goals first
    | omega
    | (dsimp only; omega)
theorem playOk_snoc {rs : List Rec} {e : Int} {k : Nat} {n : Int} {x : Int × Flt} (h2 : x.1 ≤ n) (h3 : FltOk (wordsN rs k) (ringR rs e k).length x.2) : ∀ {st : List (Int × Flt)} {ms : MS}, PlayOk rs e k n ms st → (replay rs e k ms st).done ≤ x.1 → PlayOk rs e k n ms (st ++ [x])
  | [], ms, _, h1 => ⟨h1, h2, h3, by
      show (sufferM rs e k (runM (ringR rs e k) (x.1 - ms.done).toNat ms) x.2).done ≤ n
      have h1 : ms.done ≤ x.1 := h1
      rw [sufferM_done, runM_done]
      omega⟩
  | y :: st, ms, h, h1 => ⟨h.1, h.2.1, h.2.2.1, playOk_snoc h2 h3 h.2.2.2 h1⟩
theorem playOk_up {rs : List Rec} {e : Int} {k : Nat} {n m : Int} (h : n ≤ m) : ∀ {st : List (Int × Flt)} {ms : MS}, PlayOk rs e k n ms st → PlayOk rs e k m ms st
  | [], ms, p => Int.le_trans p h
  | y :: st, ms, p => ⟨p.1, Int.le_trans p.2.1 h, p.2.2.1, playOk_up h p.2.2.2⟩
/-- the state is what its story tells -/
structure Tel (rs : List Rec) (e : Int) (k : Nat) (m0 ms : MS) (st : List (Int × Flt)) : Prop where
  pl : PlayOk rs e k ms.done m0 st
  le : (replay rs e k m0 st).done ≤ ms.done
  eq : ms = runM (ringR rs e k) (ms.done - (replay rs e k m0 st).done).toNat (replay rs e k m0 st)
theorem Tel.zero {rs : List Rec} {e : Int} {k : Nat} {m0 : MS} : Tel rs e k m0 m0 [] := ⟨Int.le_refl _, Int.le_refl _, by
  show m0 = runM _ (m0.done - m0.done).toNat m0
  rw [Int.sub_self]
  rfl⟩
theorem Tel.run {rs : List Rec} {e : Int} {k : Nat} {m0 ms : MS} {st : List (Int × Flt)} (t : Tel rs e k m0 ms st) (n : Nat) : Tel rs e k m0 (runM (ringR rs e k) n ms) st := by
  have hd := runM_done (ringR rs e k) ms n
  have hle := t.le
  refine ⟨playOk_up (by omega) t.pl, by omega, ?_⟩
  have e1 : ((runM (ringR rs e k) n ms).done - (replay rs e k m0 st).done).toNat = (ms.done - (replay rs e k m0 st).done).toNat + n := by omega
  rw [e1, runM_add, ← t.eq]
theorem Tel.hit {rs : List Rec} {e : Int} {k : Nat} {m0 ms : MS} {st st' : List (Int × Flt)} {f : Flt} (t : Tel rs e k m0 ms st) (hf : FltOk (wordsN rs k) (ringR rs e k).length f) (hs : sufferS ms f (some st) = some st') : Tel rs e k m0 (sufferM rs e k ms f) st' := by
  unfold sufferS at hs
  split at hs
  · cases hs
    have hr : replay rs e k m0 (st ++ [(ms.done, f)]) = sufferM rs e k ms f := by
      rw [replay_snoc]
      show sufferM rs e k (runM (ringR rs e k) (ms.done - (replay rs e k m0 st).done).toNat (replay rs e k m0 st)) f = _
      rw [← t.eq]
    have hd : (sufferM rs e k ms f).done = ms.done := sufferM_done
    refine ⟨?_, by rw [hr]; exact Int.le_refl _, ?_⟩
    · rw [hd]
      exact playOk_snoc (x := (ms.done, f)) (Int.le_refl _) hf t.pl t.le
    · rw [hr, Int.sub_self]
      rfl
  · rename_i hc
    cases hs
    have : sufferM rs e k ms f = ms := if_neg hc
    rw [this]
    exact t
theorem suffer_some {ms : MS} {f : Flt} {st : List (Int × Flt)} : ∃ st', sufferS ms f (some st) = some st' ∧ st'.length ≤ st.length + 1 := by
  unfold sufferS
  split
  · exact ⟨_, rfl, by simp⟩
  · exact ⟨_, rfl, Nat.le_succ _⟩
theorem suffer_none {ms : MS} {f : Flt} : sufferS ms f none = none := by
  unfold sufferS
  split <;> rfl
section
variable {P : Program} {w : World} {K : PySem.W.Frag} {mg : Str → Option Value} {base : Heap} {f : Addr} {fd : FuncData}
abbrev s__law_walked : Stmt := top 96
theorem sc__law_walked : FnScope ["_law_machine", "_law_number", "_law_row"] ["_law_machine", "_law_number"] (defScope s__law_walked) := ⟨rfl, rfl, rfl, by decide +kernel, rfl, by decide +kernel, by decide +kernel⟩
def sp__law_walked (K : PySem.W.Frag) : Sp := fun vs H Q _ => ∃ (C p ring M G A : Addr) (rs : List Rec) (e : Int) (k : Nat) (ms : MS) (st : Option (List (Int × Flt))) (n : Nat), vs = [.ref p, .int n] ∧ MC K C ∧ n ≤ 10000 ∧ MachR K H C p ring M G A rs e k ms st ∧
  ∀ l H', H l = none → Kp [p, M, G] H H' → H' l = some (.lst ((rowsM (ringR rs e k) n ms).map V.int)) → MachR K H' C p ring M G A rs e k (runM (ringR rs e k) n ms) st → Q (.ref l) H'
end
end Sr
/-! Two machines beside one another. -/
namespace Sr
open PySem PySem.Spec PyProof.Rows L2
theorem tup_s {t : TA} {σ : L2.St} {H : Hp} {Q : VK} (h : t σ H fun vs H1 => vs.length ≤ sizeLine ∧ ∀ p, H1 p = none → Q (.ref p) (upd H1 p (.tup vs))) : tTup t σ H Q := h
theorem cons_s {ta : TE} {tr : TA} {σ : L2.St} {H : Hp} {Q : List V → Hp → Prop} (h : ta σ H fun v H1 => tr σ H1 fun vs H2 => Q (v :: vs) H2) : tCons ta tr σ H Q := h
theorem asg_s {te : TE} {g : TG} {D : Ends} {σ : L2.St} {H : Hp} (h : te σ H fun v H1 => g v σ H1 D.nx) : tAsg te g D σ H := h
theorem seq_s {a b : TS} {D : Ends} {σ : L2.St} {H : Hp} (h : a { D with nx := fun σ1 H1 => b D σ1 H1 } σ H) : tSeq a b D σ H := h
theorem join_if {tt : TT} {A B : TS} {D : Ends} {σ : L2.St} {H : Hp} (P : L2.St → Hp → Prop) (hP : ∀ σ1 H1, P σ1 H1 → D.nx σ1 H1) (h : ∀ D' : Ends, (∀ σ1 H1, P σ1 H1 → D'.nx σ1 H1) → tIfS tt A B D' σ H) : tIfS tt A B D σ H := h D hP
theorem iteB {b : Bool} {p q : Prop} (h1 : b = true → p) (h2 : b = false → q) : if b = true then p else q := by
  cases b with
  | true => exact iteT (h1 rfl)
  | false => exact iteF (h2 rfl)
/-- an iterator that stands -/
theorem ei_ready {J : It} {n : Nat} {G : Hp → Prop} {Y : Nat → Hp → V → Hp → Prop} {σ : L2.St} {H : Hp} (w : Walk J n G Y) (hG : ∀ H, G H) : EvIF (fun _ H R => R J H) σ H n Y := fun H1 k R q => q J H1 G (Kp.refl _ _) w fun _ H3 _ _ => hG H3
/-- none of S is any of T -/
def Apt (S T : List Addr) : Prop := ∀ b ∈ S, b ∉ T
theorem Apt.out {S T : List Addr} (h : Apt S T) {b : Addr} (m : b ∈ T) : b ∉ S := fun z => h b z m
theorem MachR.kpA {K : PySem.W.Frag} {H H' : Hp} {C p ring M G A : Addr} {rs : List Rec} {e : Int} {k : Nat} {ms : MS} {st : Option (List (Int × Flt))} {S : List Addr} (m : MachR K H C p ring M G A rs e k ms st) (kp : Kp S H H') (h : Apt S [p, M, G, A, ring]) : MachR K H' C p ring M G A rs e k ms st :=
  m.kp kp fun b hb => by
    have := h b hb
    simp only [List.mem_cons, List.not_mem_nil, or_false, not_or] at this
    exact this
theorem MachR.adrs {K : PySem.W.Frag} {H : Hp} {C p ring M G A : Addr} {rs : List Rec} {e : Int} {k : Nat} {ms : MS} {st : Option (List (Int × Flt))} (m : MachR K H C p ring M G A rs e k ms st) : ∀ b ∈ [p, M, G, A, ring], ∃ o, H b = some o := by
  obtain ⟨tl, mi, _⟩ := m.ex
  obtain ⟨dx, w, ep, _⟩ := mi.o.ex
  obtain ⟨dr, a, b, c, er, _⟩ := mi.o.hR.ex
  intro b hb
  simp only [List.mem_cons, List.not_mem_nil, or_false] at hb
  rcases hb with rfl | rfl | rfl | rfl | rfl
  · exact ⟨_, ep⟩
  · exact ⟨_, mi.o.hM⟩
  · exact ⟨_, mi.o.hG⟩
  · exact ⟨_, mi.o.hA⟩
  · exact ⟨_, er⟩
theorem Kp.sub {S T : List Addr} {H H' : Hp} (k : Kp S H H') (h : ∀ b ∈ S, b ∈ T) : Kp T H H' := k.mono h
section
variable {P : Program} {w : World} {K : PySem.W.Frag} {mg : Str → Option Value} {base : Heap} {f : Addr} {fd : FuncData}
theorem ed_seen {rd : RdF} {σ : L2.St} {H : Hp} {to : TE} {E : XK} {C p ring M G A : Addr} {rs : List Rec} {e : Int} {k : Nat} {ms : MS} {st : Option (List (Int × Flt))} (ho : EvV to σ H (.ref p)) (hC : MC K C) (m : MachR K H C p ring M G A rs e k ms st) (hb : SeenB ms) : EvD (tCall (sp__law_seen K rd) [] E (tCons to tNil)) σ H (.str (seenD rd rs e k ms).shown) := fun H1 k1 Q q =>
  ho H1 k1 _ fun H2 k2 => ⟨C, p, ring, M, G, A, rs, e, k, ms, st, rfl, hC, m.kp0 (k1.trans k2), hb, fun H3 k3 => q _ H3 (k2.trans k3) (.str _)⟩
/-- C(ring, first) -/
theorem run_make {σ : L2.St} {H : Hp} {ta tb : TE} {E : XK} {Q : VK} {C ring : Addr} {rs : List Rec} {e : Int} {k : Nat} {ws : List Int} {st0 : Option (List (Int × Flt))} (ha : EvV ta σ H (.ref ring)) (hb : EvD tb σ H (.tuple (ws.map PyData.int))) (ro_ : RingO H (cR K) ring rs e k) (hg : RingG rs e k) (hw : ws.length = rs.length) (hwk : ∀ x ∈ ws, wOk x)
    (q : ∀ p M G A H', Kp [] H H' → (∀ b ∈ [p, M, G, A], H b = none) → MachR K H' C p ring M G A rs e k (ms0 k ws) st0 → Q (.ref p) H') : tMake C (sp_MI K C st0) [] E (tCons ta (tCons tb tNil)) σ H Q :=
  ha H (Kp.refl _ _) _ fun H1 k1 => hb H1 k1 _ fun v H2 k2 t2 x dx hx hdx ne => by
    obtain ⟨kn, en⟩ := newIns (C := C) hx hdx ne
    have k02 := k1.trans k2
    have hx0 : H x = none := k02.free hx
    refine ⟨x, dx, ring, v, rs, e, k, ws, rfl, en, (ro_.kp k02 fun z => nomatch z).kp kn (fun z => nomatch z), hg, t2.kp kn, hw, hwk, fun M G A H3 k3 hM hG hA m => ⟨rfl, ?_⟩⟩
    refine q x M G A H3 (k02.trans ?_) (fun b hb => ?_) m
    · exact kn.thenM k3 fun b hb => .inr (by rw [List.mem_singleton.mp hb]; exact hx)
    · simp only [List.mem_cons, List.not_mem_nil, or_false] at hb
      rcases hb with rfl | rfl | rfl | rfl
      · exact hx0
      · exact k02.free (kn.free hM)
      · exact k02.free (kn.free hG)
      · exact k02.free (kn.free hA)
theorem run_walked {σ : L2.St} {H : Hp} {ta tb : TE} {E : XK} {Q : VK} {C p ring M G A : Addr} {rs : List Rec} {e : Int} {k : Nat} {ms : MS} {st : Option (List (Int × Flt))} {n : Nat} (ha : EvV ta σ H (.ref p)) (hb : EvD tb σ H (.int n)) (hC : MC K C) (hn : n ≤ 10000) (m : MachR K H C p ring M G A rs e k ms st)
    (q : ∀ l H', H l = none → Kp [p, M, G] H H' → H' l = some (.lst ((rowsM (ringR rs e k) n ms).map V.int)) → MachR K H' C p ring M G A rs e k (runM (ringR rs e k) n ms) st → Q (.ref l) H') : tCall (sp__law_walked K) [] E (tCons ta (tCons tb tNil)) σ H Q :=
  ha H (Kp.refl _ _) _ fun H1 k1 => ev_i hb H1 k1 _ fun H2 k2 => ⟨C, p, ring, M, G, A, rs, e, k, ms, st, n, rfl, hC, hn, m.kp0 (k1.trans k2), fun l H3 hl k3 e3 m3 => q l H3 ((k1.trans k2).free hl) ((k1.trans k2).wid.trans k3) e3 m3⟩
theorem run_fault {σ : L2.St} {H : Hp} {ta tb tc td : TE} {E : XK} {Q : VK} {d c ring : Addr} {n : Nat} {rs : List Rec} {e : Int} {k : Nat} (ha : EvV ta σ H (.ref d)) (hb : EvV tb σ H (.ref ring)) (hc : EvD tc σ H (.int k)) (hd : EvD td σ H (.int rs.length)) (D : Deck H d c n) (hn : n ≤ 600000) (ro_ : RingO H (cR K) ring rs e k) (hg : RingG rs e k)
    (q : ∀ (fl : Flt) v H', FltOk (wordsN rs k) (ringR rs e k).length fl → Kp [d, c] H H' → Deck H' d c (n + 20) → TD H' v (rowD fl) → Q v H') : tCall (sp__law_fault K) [] E (tCons ta (tCons tb (tCons tc (tCons td tNil)))) σ H Q :=
  ha H (Kp.refl _ _) _ fun H1 k1 => hb H1 k1 _ fun H2 k2 => ev_i hc H2 (k1.trans k2) _ fun H3 k3 => ev_i hd H3 ((k1.trans k2).trans k3) _ fun H4 k4 => by
    have k := ((k1.trans k2).trans k3).trans k4
    exact ⟨d, c, ring, n, rs, e, _, rfl, D.kp0 k, hn, ro_.kp k (fun z => nomatch z), hg, fun fl v H5 hf k5 D5 t5 => q fl v H5 hf (k.wid.trans k5) D5 t5⟩
theorem lcr_s {te te' : TE} {g : TG} {tt : TT} {vs : List Nat} {σ : L2.St} {H : Hp} {Q : VK} (h : te σ H fun v H1 => ∃ j : Int, [v] = [.int j] ∧ -(2 ^ 62) ≤ j ∧ j < 2 ^ 62 ∧ tLc (fun _ H R => R (Itr 0 j.toNat) H) g tt te' vs σ H1 Q) : tLc (iRng1 (tCons te tNil)) g tt te' vs σ H Q := h
theorem ne_same {X : List Int} : (!PyData.eqv (.list (X.map PyData.int)) (.list (X.map PyData.int))) = false := by
  show (!PyData.eqvAll (X.map PyData.int) (X.map PyData.int)) = false
  rw [eqv_ints]
  simp
abbrev s__law_beside_right : Stmt := top 97
theorem sc__law_beside_right : FnScope ["_law_deck_here", "_law_ring", "_law_read", "_law_first", "_law_count", "_law_one", "_law_two", "_law_far", "_law_turn", "_law_number", "_law_some", "_law_fault_here", "_law_start", "_law_due", "_law_again", "_law_k"] ["_law_deck_here", "_law_ring", "_law_read", "_law_first", "_law_count"] (defScope s__law_beside_right) := ⟨rfl, rfl, rfl, by decide +kernel, rfl, by decide +kernel, by decide +kernel⟩
/-- the two, the deck, behind i turns -/
structure Both (K : PySem.W.Frag) (rs : List Rec) (e : Int) (k : Nat) (m0 : MS) (d c r1 r2 p1 M1 G1 A1 p2 M2 G2 A2 : Addr) (n i : Nat) (H : Hp) (ms : MS) (st : List (Int × Flt)) : Prop where
  dk : Deck H d c (n + 100 * i)
  one : MachR K H (cC K) p1 r1 M1 G1 A1 rs e k ms (some st)
  two : MachR K H (cM K) p2 r2 M2 G2 A2 rs e k ms none
  tel : Tel rs e k m0 ms st
  dn : 0 ≤ ms.done ∧ ms.done ≤ 1600 * i
  ct : 0 ≤ ms.cnt ∧ ms.cnt ≤ 2 * i
  sl : st.length ≤ 2 * i
def sp__law_beside_right (K : PySem.W.Frag) : Sp := fun vs H Q _ => ∃ (d c r1 r2 : Addr) (v : V) (rs : List Rec) (e : Int) (k n : Nat) (ws : List Int), vs = [.ref d, .ref r1, .ref r2, v, .int k] ∧ Deck H d c n ∧ n ≤ 200000 ∧ RingO H (cR K) r1 rs e k ∧ RingO H (cR K) r2 rs e k ∧ RingG rs e k ∧ TD H v (.tuple (ws.map PyData.int)) ∧ ws.length = rs.length ∧ (∀ x ∈ ws, wOk x) ∧
  ∀ H', Kp [d, c] H H' → Deck H' d c (n + 1500) → Q (.bl true) H'
theorem ok__law_beside_right {rd : RdF} (F : At K mg "_law_beside_right" "_law_beside_right" s__law_beside_right ["_law_deck_here", "_law_ring", "_law_read", "_law_first", "_law_count"] f fd) (T : Txt K mg)
    (k_Recorder : GMk P w K mg base 4 "Recorder" (cC K) ["self", "ring", "first"] (sp_MI K (cC K) (some []))) (k_Machine : GMk P w K mg base 3 "Machine" (cM K) ["self", "ring", "first"] (sp_MI K (cM K) none))
    (m_len : GM P w K mg base 1 (cR K) "__len__" ["self"] (sp_Ring_len (cR K))) (g__law_draw : GF P w K mg base 1 "_law_draw" ["_law_deck_here", "_law_many"] sp__law_draw)
    (pC_row : GP P w K mg base 1 (cC K) "row" (sp_MD K (cC K) fun _ _ _ ms => .int ms.row)) (pC_executed : GP P w K mg base 1 (cC K) "executed" (sp_MD K (cC K) fun _ _ _ ms => .int ms.done)) (pC_story : GP P w K mg base 1 (cC K) "story" (sp_story K (cC K)))
    (mC_run : GM P w K mg base 4 (cC K) "run" ["self", "many"] (sp_run K (cC K))) (mM_run : GM P w K mg base 4 (cM K) "run" ["self", "many"] (sp_run K (cM K))) (g__law_walked : GF P w K mg base 8 "_law_walked" ["_law_machine", "_law_number"] (sp__law_walked K))
    (g__law_seen : GFG P w K mg base 10 "_law_seen" ["_law_machine"] (sp__law_seen K rd)) (g__law_fault : GF P w K mg base 4 "_law_fault" ["_law_deck_here", "_law_ring", "_law_count", "_law_many"] (sp__law_fault K))
    (mC_strike : GMS P w K mg base 8 (cC K) "strike" (sp_strike K (cC K) true)) (mM_strike : GMS P w K mg base 8 (cM K) "strike" (sp_strike K (cM K) false)) (m_play : GM P w K mg base 8 (cM K) "play" ["self", "story", "executed"] (sp_play K (cM K))) :
    FnG P w K mg base 11 f fd ["_law_deck_here", "_law_ring", "_law_read", "_law_first", "_law_count"] (sp__law_beside_right K) := by
  refine fnG F.fn sc__law_beside_right (fun vs H Q E h => ?_) (fun cdv A0 outer s H vs Q E hg0 hr h => ?_)
  · obtain ⟨d, c, r1, r2, v, rs, e, k, n, ws, rfl, _⟩ := h
    rfl
  · obtain ⟨d, c, r1, r2, v, rs, e, k, n, ws, rfl, D, hn, ro1, ro2, hg, tv, hw, hwk, q⟩ := h
    refine ⟨_, (pss_cons (ps_asg (pe_tup (pa_cons (pe_mk k_Recorder (hr.mono (by decide)) rfl (pa_cons (pv 1) (pa_cons (pv 3) pa_nil))) (pa_cons (pe_mk k_Machine (hr.mono (by decide)) rfl (pa_cons (pv 2) (pa_cons (pv 3) pa_nil))) (pa_cons (pe_callB (r := rLenO (cR K) (sp_Ring_len (cR K))) (call_lenO m_len (hr.mono (by decide))) rfl T.f_len PySem.boot_len (pa_cons (pv 1) pa_nil)) pa_nil)))) (pg_tup rfl (pgs_cons (pg_name (i := 5) sc__law_beside_right.nd rfl (Or.inl rfl)) (pgs_cons (pg_name (i := 6) sc__law_beside_right.nd rfl (Or.inl rfl)) (pgs_cons (pg_name (i := 7) sc__law_beside_right.nd rfl (Or.inr rfl)) pgs_nil)))))
      (pss_cons (ps_for PassesOwn.never rfl (pi_range1 rfl T.f_range (pa_cons pe_int pa_nil)) (pg_name (i := 8) sc__law_beside_right.nd rfl (Or.inl rfl)) (pss_cons (ps_set (i := 9) sc__law_beside_right.nd rfl (Or.inl rfl) (pe_gf g__law_draw (hr.mono (by decide)) rfl (pa_cons (pv 0) (pa_cons (pe_ix (r := rIxL K) ix_list (pe_lst (pa_cons (pv 7) (pa_cons (pe_op op_mul pe_int (pv 7)) (pa_cons pe_int pa_nil)))) (pe_gf g__law_draw (hr.mono (by decide)) rfl (pa_cons (pv 0) (pa_cons pe_int pa_nil))) (fun _ _ => rfl)) pa_nil))))
      (pss_cons (ps_if (pt_cmpR op_eq (pe_gf g__law_draw (hr.mono (by decide)) rfl (pa_cons (pv 0) (pa_cons pe_int pa_nil))) pe_int (nomark _)) (pss_cons (ps_set (i := 12) sc__law_beside_right.nd rfl (Or.inr rfl) (pe_gp pC_row (hr.mono (by decide)) (pv 5)))
      (pss_cons (ps_setLc (i := 13) (own := [("_law_k", 15)]) rfl sc__law_beside_right.nd rfl rfl (sw_true rfl rfl rfl (by decide +kernel)) (pi_range1 rfl T.f_range (pa_cons (pv 9) pa_nil)) (blkOk_by (own := [("_law_k", 15)]) (N := ["_law_deck_here", "_law_ring", "_law_read", "_law_first", "_law_count", "_law_one", "_law_two", "_law_far", "_law_turn", "_law_number", "_law_some", "_law_fault_here", "_law_start", "_law_due", "_law_again", "_law_k"]) (sc := defScope (top 97)) (by decide +kernel)) (fun _ _ _ _ _ => (pg_name (i := 15) sc__law_beside_right.nd rfl (Or.inl rfl))) (fun _ _ _ _ _ => pts_nil) (fun _ _ _ _ _ => (pe_op op_mod (pe_op op_add (pv 12) (pv 15)) (pv 7))))
      (pss_one (ps_if (PW.pt (pw_or (pt_cmpR (op_neD hr.units) (pe_gf g__law_walked (hr.mono (by decide)) rfl (pa_cons (pv 5) (pa_cons (pv 9) pa_nil))) (pv 13) (nomark _)) (pw_or1 (pt_cmpR (op_neD hr.units) (pe_gf g__law_walked (hr.mono (by decide)) rfl (pa_cons (pv 6) (pa_cons (pv 9) pa_nil))) (pv 13) (nomark _))))) (pss_one (ps_ret pe_bl)) pss_nil)))) (pss_cons (ps_expr (pe_gm mC_run (hr.mono (by decide)) (pv 5) (pa_cons (pv 9) pa_nil)))
      (pss_one (ps_expr (pe_gm mM_run (hr.mono (by decide)) (pv 6) (pa_cons (pv 9) pa_nil))))))
      (pss_cons (ps_if (pt_cmpR op_ne (pe_gfG g__law_seen hg0 (hr.mono (by decide)) rfl (pa_cons (pv 5) pa_nil)) (pe_gfG g__law_seen hg0 (hr.mono (by decide)) rfl (pa_cons (pv 6) pa_nil)) (nomark _)) (pss_one (ps_ret pe_bl)) pss_nil)
      (pss_cons (ps_setLc (i := 10) (own := [("_law_k", 15)]) rfl sc__law_beside_right.nd rfl rfl (sw_true rfl rfl rfl (by decide +kernel)) (pi_range1 rfl T.f_range (pa_cons (pe_gf g__law_draw (hr.mono (by decide)) rfl (pa_cons (pv 0) (pa_cons pe_int pa_nil))) pa_nil)) (blkOk_by (own := [("_law_k", 15)]) (N := ["_law_deck_here", "_law_ring", "_law_read", "_law_first", "_law_count", "_law_one", "_law_two", "_law_far", "_law_turn", "_law_number", "_law_some", "_law_fault_here", "_law_start", "_law_due", "_law_again", "_law_k"]) (sc := defScope (top 97)) (by decide +kernel)) (fun _ _ _ _ _ => (pg_name (i := 15) sc__law_beside_right.nd rfl (Or.inl rfl))) (fun _ _ _ _ _ => pts_nil) (fun _ _ _ _ _ => (pe_gf g__law_fault (hr.mono (by decide)) rfl (pa_cons (pv 0) (pa_cons (pv 1) (pa_cons (pv 4) (pa_cons (pe_callB (r := rLen K) call_len_seq rfl T.f_len PySem.boot_len (pa_cons (pv 3) pa_nil)) pa_nil)))))))
      (pss_cons (ps_for PassesOwn.never rfl (pi_list (pv 10)) (pg_name (i := 11) sc__law_beside_right.nd rfl (Or.inl rfl)) (pss_cons (ps_expr (pe_gms mC_strike (hr.mono (by decide)) (pv 5) (pa_cons (pv 11) pa_nil)))
      (pss_one (ps_expr (pe_gms mM_strike (hr.mono (by decide)) (pv 6) (pa_cons (pv 11) pa_nil))))))
      (pss_one (ps_if (pt_cmpR op_ne (pe_gfG g__law_seen hg0 (hr.mono (by decide)) rfl (pa_cons (pv 5) pa_nil)) (pe_gfG g__law_seen hg0 (hr.mono (by decide)) rfl (pa_cons (pv 6) pa_nil)) (nomark _)) (pss_one (ps_ret pe_bl)) pss_nil))))))))
      (pss_cons (ps_set (i := 14) sc__law_beside_right.nd rfl (Or.inl rfl) (pe_mk k_Machine (hr.mono (by decide)) rfl (pa_cons (pv 2) (pa_cons (pv 3) pa_nil))))
      (pss_cons (ps_expr (pe_gm m_play (hr.mono (by decide)) (pv 14) (pa_cons (pe_gp pC_story (hr.mono (by decide)) (pv 5)) (pa_cons (pe_gp pC_executed (hr.mono (by decide)) (pv 5)) pa_nil))))
      (pss_one (ps_ret (pe_cmpR op_eq (pe_gfG g__law_seen hg0 (hr.mono (by decide)) rfl (pa_cons (pv 14) pa_nil)) (pe_gfG g__law_seen hg0 (hr.mono (by decide)) rfl (pa_cons (pv 5) pa_nil)) (nomark _)))))))), ?_⟩
    have hgn := hg.rs.1
    have hgk := hg.k
    have hL := ringR_len hg
    have hLp : 1 ≤ (ringR rs e k).length := by
      have h := (ms0_ok hg hw hwk).row
      have h1 : 0 ≤ (ms0 k ws).row := h.1
      omega
    refine seq_s (asg_s (tup_s (cons_s ?_)))
    refine run_make (K := K) (C := cC K) (st0 := some []) (ev_var rfl) (ed_var rfl tv) ro1 hg hw hwk fun p1 M1 G1 A1 H1 k1 f1 m1 => cons_s ?_
    refine run_make (K := K) (C := cM K) (st0 := none) (ev_var rfl) (ed_var rfl (tv.kp k1)) (ro2.kp k1 fun z => nomatch z) hg hw hwk fun p2 M2 G2 A2 H2 k2 f2 m2 => cons_s ?_
    refine (ed_lenO (C := cR K) (ev_var rfl) ((ro1.kp k1 fun z => nomatch z).kp k2 fun z => nomatch z) hg) H2 (Kp.refl _ _) _ fun v3 H3 k3 t3 => ?_
    cases t3
    refine ⟨(show 3 ≤ sizeLine by decide), fun pt hpt => ?_⟩
    have kpt := Kp.new (S := []) (o := .tup [V.ref p1, .ref p2, .int (ringR rs e k).length]) hpt
    refine ⟨pt, _, rfl, SqT.of upd_same, rfl, ⟨_, _, rfl, ⟨_, _, rfl, ⟨_, _, rfl, rfl, ?_⟩⟩⟩⟩
    have k24 := k3.trans kpt
    have m1' := (m1.kp0 k2).kp0 k24
    have m2' := m2.kp0 k24
    have D4 := ((D.kp0 k1).kp0 k2).kp0 k24
    have k04 := (k1.trans k2).trans k24
    have ro1' := ro1.kp k04 fun z => nomatch z
    have tv4 := tv.kp k04
    -- apart
    have hdc : ∀ b ∈ [d, c], ∃ o, H b = some o := fun b hb => by
      simp only [List.mem_cons, List.not_mem_nil, or_false] at hb
      rcases hb with rfl | rfl
      · exact D.at.1
      · exact D.at.2
    have neN : ∀ {H : Hp} {a b : Addr}, (∃ o, H a = some o) → H b = none → a ≠ b := fun ⟨o, ho⟩ h z => by rw [z, h] at ho; cases ho
    have ro1x : ∃ o, H r1 = some o := by
      obtain ⟨dr, a, b, c, er, _⟩ := ro1.ex
      exact ⟨_, er⟩
    have ro2x : ∃ o, H r2 = some o := by
      obtain ⟨dr, a, b, c, er, _⟩ := ro2.ex
      exact ⟨_, er⟩
    have nd1 := D.ring ro1
    have nd2 := D.ring ro2
    have memC : ∀ {p M G A r b : Addr}, b ∈ [p, M, G, A, r] → b ∈ [p, M, G, A] ∨ b = r := fun {p M G A r b} h => by
      have h : b ∈ [p, M, G, A] ++ [r] := h
      rcases List.mem_append.mp h with h | h
      · exact .inl h
      · exact .inr (List.mem_singleton.mp h)
    have memD : ∀ {p M G A r b : Addr}, b ∈ [p, M, G, A] → b ∈ [p, M, G, A, r] := fun {p M G A r b} h => (show b ∈ [p, M, G, A] ++ [r] from List.mem_append_left _ h)
    have a1 : Apt [d, c] [p1, M1, G1, A1, r1] := fun b hb hz => by
      rcases memC hz with h | rfl
      · exact neN (hdc b hb) (f1 b h) rfl
      · simp only [List.mem_cons, List.not_mem_nil, or_false] at hb
        exact hb.elim nd1.1 nd1.2
    have kx : ∀ {b : Addr}, (∃ o, H b = some o) → ∃ o, H1 b = some o := fun ⟨o, ho⟩ => ⟨o, k1.get ho⟩
    have a2 : Apt [d, c] [p2, M2, G2, A2, r2] := fun b hb hz => by
      rcases memC hz with h | rfl
      · exact neN (kx (hdc b hb)) (f2 b h) rfl
      · simp only [List.mem_cons, List.not_mem_nil, or_false] at hb
        exact hb.elim nd2.1 nd2.2
    have a3 : Apt [p1, M1, G1, A1] [p2, M2, G2, A2, r2] := fun b hb hz => by
      rcases memC hz with h | rfl
      · exact neN (m1.adrs b (memD hb)) (f2 b h) rfl
      · exact neN ro2x (f1 b hb) rfl
    have a4 : Apt [p2, M2, G2, A2] [p1, M1, G1, A1, r1] := fun b hb hz => by
      rcases memC hz with h | rfl
      · exact neN (m1.adrs b hz) (f2 b hb) rfl
      · exact neN (kx ro1x) (f2 b hb) rfl
    have a5 : Apt [p1, M1, G1, A1] [d, c] := fun b hb hz => neN (hdc b hz) (f1 b hb) rfl
    have a6 : Apt [p2, M2, G2, A2] [d, c] := fun b hb hz => neN (kx (hdc b hz)) (f2 b hb) rfl
    generalize upd H3 pt (.tup [V.ref p1, .ref p2, .int (ringR rs e k).length]) = H4 at m1' m2' D4 k04 ro1' tv4
    clear kpt k24
    try dsimp only
    have mc : MC K (cC K) := .inr rfl
    have mm : MC K (cM K) := .inl rfl
    have hm0 : 0 ≤ (ms0 k ws).done ∧ (ms0 k ws).cnt = 0 := ⟨Int.le_refl _, rfl⟩
    have inS : ∀ {S : List Addr}, (S = [d, c] ∨ S = [p1, M1, G1, A1] ∨ S = [p2, M2, G2, A2]) → ∀ b ∈ S, b ∈ [d, c, p1, M1, G1, A1, p2, M2, G2, A2] := fun h b hb => by
      rcases h with rfl | rfl | rfl
      · simp only [List.mem_cons, List.not_mem_nil, or_false] at hb ⊢
        rcases hb with h | h <;> simp [h]
      · simp only [List.mem_cons, List.not_mem_nil, or_false] at hb ⊢
        rcases hb with h | h | h | h <;> simp [h]
      · simp only [List.mem_cons, List.not_mem_nil, or_false] at hb ⊢
        rcases hb with h | h | h | h <;> simp [h]
    refine seq_s ?_
    refine st_for (ei_range (n := 14) ed_i rfl (by decide)) fun H5 k5 => ?_
    refine ⟨fun i σ' H' => ∃ o8 o9 o10 o11 o12 o13 o14 o15 ms st, σ' = [some (.ref d), some (.ref r1), some (.ref r2), some v, some (.int k), some (.ref p1), some (.ref p2), some (.int (ringR rs e k).length), o8, o9, o10, o11, o12, o13, o14, o15] ∧ Kp [d, c, p1, M1, G1, A1, p2, M2, G2, A2] H5 H' ∧ Both K rs e k (ms0 k ws) d c r1 r2 p1 M1 G1 A1 p2 M2 G2 A2 n i H' ms st,
      ⟨_, _, _, _, _, _, _, _, ms0 k ws, [], rfl, Kp.refl _ _, ⟨(D4.kp0 k5).up (by omega), m1'.kp0 k5, m2'.kp0 k5, Tel.zero, ⟨hm0.1, Int.le_refl _⟩, ⟨by rw [hm0.2]; exact Int.le_refl _, by rw [hm0.2]; exact Int.le_refl _⟩, Nat.zero_le _⟩⟩, fun i σ' H' ⟨_, _, _, _, _, _, _, _, _, _, _, kp, _⟩ => ⟨_, kp, fun _ z => nomatch z⟩, fun i x σ' H6 H6' hi hP hy => ?_, fun σ' H6 hP => ?_⟩
    · obtain ⟨o8, o9, o10, o11, o12, o13, o14, o15, ms, st, rfl, kp, B⟩ := hP
      obtain ⟨rfl, rfl⟩ := hy
      have tv6 := ((tv4.kp k5).kp kp)
      have ro6 : RingO H6' (cR K) r1 rs e k := by
        obtain ⟨tl, mi, _⟩ := B.one.ex
        exact mi.o.hR
      have hd := B.dn
      have hct := B.ct
      have hsl := B.sl
      have dcO : ∀ {b : Addr}, (∃ o, H6' b = some o) → True := fun _ => trivial
      refine seq_s (asg_s ?_)
      refine ⟨_, rfl, ?_⟩
      -- the number of rows
      dsimp only
      refine cons_s (op_s ?_)
      refine (el_lst (σ := [some (.ref d), some (.ref r1), some (.ref r2), some v, some (.int k), some (.ref p1), some (.ref p2), some (.int (ringR rs e k).length), some (.int ((0 : Int) + (i : Nat))), o9, o10, o11, o12, o13, o14, o15]) (eds_cons (ed_var (i := 7) rfl (.int _)) (eds_cons (ed_mul (ed_i (x := 2)) (ed_var (i := 7) rfl (.int _)) (.inl ⟨by decide, by decide⟩)) (eds_cons (ed_i (x := 30)) eds_nil))) (show 3 ≤ 100000 by decide)) H6' (Kp.refl _ _) _ fun l7 us7 H7 hl7 k7 e7 t7 => ?_
      obtain rfl : us7 = [V.int (ringR rs e k).length, .int (2 * ((ringR rs e k).length : Int)), .int 30] := TDs.ofInts (ns := [_, _, _]) t7
      refine run_draw (ev_var rfl) ed_i (B.dk.kp0 k7) (by omega) ⟨by decide, by decide⟩ fun j H8 hj k8 D8 => ?_
      have l7o : l7 ∉ [d, c] := fun z => by
        simp only [List.mem_cons, List.not_mem_nil, or_false] at z
        rcases z with rfl | rfl
        · obtain ⟨o, ho⟩ := B.dk.at.1
          rw [ho] at hl7
          cases hl7
        · obtain ⟨o, ho⟩ := B.dk.at.2
          rw [ho] at hl7
          cases hl7
      obtain ⟨m, hm, hmb⟩ : ∃ m : Int, L2.atI [V.int (ringR rs e k).length, .int (2 * ((ringR rs e k).length : Int)), .int 30] j = some (.int m) ∧ 1 ≤ m ∧ m ≤ 1550 := by
        have : j = 0 ∨ j = 1 ∨ j = 2 := by omega
        rcases this with rfl | rfl | rfl
        · exact ⟨_, at0, by omega, by omega⟩
        · exact ⟨_, at1, by omega, by omega⟩
        · exact ⟨_, at2, by omega, by omega⟩
      refine ⟨l7, _, j, .int m, rfl, rfl, SqL.of (k8.oth _ _ l7o e7), hm, ?_⟩
      refine ⟨d, c, _, m, rfl, D8, by omega, by omega, fun nb H9 hnb k9 D9 => ?_⟩
      obtain ⟨nn, rfl⟩ := Int.eq_ofNat_of_zero_le hnb.1
      have hnn : nn < 1550 := by omega
      have k69 : Kp [d, c] H6' H9 := (k7.wid.trans k8).trans k9
      have one9 := B.one.kpA k69 a1
      have two9 := B.two.kpA k69 a2
      try dsimp only
      have k6S : Kp [d, c, p1, M1, G1, A1, p2, M2, G2, A2] H6' H9 := k69.sub (inS (.inl rfl))
      have tv9 := tv6.kp k69
      have m3S : ∀ {H H' : Hp}, Kp [p1, M1, G1] H H' → Kp [p1, M1, G1, A1] H H' := fun k => k.m3
      have m3T : ∀ {H H' : Hp}, Kp [p2, M2, G2] H H' → Kp [p2, M2, G2, A2] H H' := fun k => k.m3
      have hrow : 0 ≤ ms.row ∧ ms.row < (ringR rs e k).length := by
        obtain ⟨tl, mi, _⟩ := B.one.ex
        exact mi.ok.row
      refine seq_s ?_
      refine join_if (fun σ1 H1 => ∃ o12 o13, σ1 = [some (.ref d), some (.ref r1), some (.ref r2), some v, some (.int k), some (.ref p1), some (.ref p2), some (.int (ringR rs e k).length), some (.int ((0 : Int) + (i : Nat))), some (.int nn), o10, o11, o12, o13, o14, o15] ∧ Kp [d, c, p1, M1, G1, A1, p2, M2, G2, A2] H6' H1 ∧ Deck H1 d c (n + 100 * i + 3) ∧ MachR K H1 (cC K) p1 r1 M1 G1 A1 rs e k (runM (ringR rs e k) nn ms) (some st) ∧ MachR K H1 (cM K) p2 r2 M2 G2 A2 rs e k (runM (ringR rs e k) nn ms) none)
        (fun σ1 H10 hP => ?_) (fun D' hD' => ?_)
      rotate_left
      · refine run_draw (ev_var rfl) ed_i D9 (by omega) ⟨by decide, by decide⟩ fun b H10 hb k10 D10 => ⟨rfl, _, rfl, iteB (fun _ => ?_) fun _ => ?_⟩
        · have one10 := one9.kpA k10 a1
          have two10 := two9.kpA k10 a2
          refine seq_s ?_
          refine sd_set (ed_MD (C := cC K) (g := fun _ _ _ ms => .int ms.row) (ev_var rfl) one10) fun v11 H11 k11 t11 => ?_
          cases t11
          try dsimp only
          refine seq_s ?_
          refine sl_set (ds := ((List.range nn).map fun (j : Nat) => (ms.row + j) % ((ringR rs e k).length : Int)).map PyData.int) (el_lc (f := fun j => .int (0 + (j : Nat))) (ei_range (n := nn) (ed_var (i := 9) rfl (.int _)) rfl (by omega)) (by simp) yfn (by omega) (fun _ => rfl) fun j dd hj => ?_) fun l12 us12 H12 hl12 k12 e12 t12 => ?_
          · have hjn : j < nn := by
              have := (List.getElem?_eq_some_iff.mp hj).1
              simpa using this
            rw [List.getElem?_map, List.getElem?_map, List.getElem?_range hjn] at hj
            cases hj
            show EvD _ _ _ (.int ((ms.row + (j : Int)) % ((ringR rs e k).length : Int)))
            rw [show ((ms.row + (j : Int)) % ((ringR rs e k).length : Int)) = ((ms.row + (0 + (j : Nat))) % ((ringR rs e k).length : Int)) by rw [Int.zero_add]]
            exact ed_mod (ed_add (ed_var rfl (.int _)) (ed_var rfl (.int _))) (ed_var rfl (.int _)) (by omega)
          have hrows : (List.range nn).map (fun (j : Nat) => (ms.row + j) % ((ringR rs e k).length : Int)) = rowsM (ringR rs e k) nn ms := List.map_congr_left fun j _ => (runM_row hrow j).1.symm
          rw [hrows] at t12
          try dsimp only
          have k1012 := k11.trans k12
          have one12 := one10.kp0 k1012
          have two12 := two10.kp0 k1012
          obtain rfl : us12 = (rowsM (ringR rs e k) nn ms).map V.int := TDs.ofInts t12
          have hsh : Shp 1 (.list ((rowsM (ringR rs e k) nn ms).map PyData.int)) := Shp.lst (Shp.ints _)
          have l12a : ∀ {b : Addr}, (∃ o, H10 b = some o) → l12 ≠ b := fun ⟨o, ho⟩ z => by
            rw [z, k11.get ho] at hl12
            cases hl12
          have l12b : l12 ∉ [p1, M1, G1] := fun z => l12a (one10.adrs l12 (by simp only [List.mem_cons, List.not_mem_nil, or_false] at z ⊢; rcases z with h | h | h <;> simp [h])) rfl
          have l12c : l12 ∉ [p2, M2, G2] := fun z => l12a (two10.adrs l12 (by simp only [List.mem_cons, List.not_mem_nil, or_false] at z ⊢; rcases z with h | h | h <;> simp [h])) rfl
          refine run_walked (ev_var rfl) (ed_var rfl (.int nn)) mc (by omega) one12 fun l14 H14 hl14 k14 e14 one14 => ?_
          have e12' := k14.oth l12 _ l12b e12
          refine ⟨_, rfl, .list ((rowsM (ringR rs e k) nn ms).map PyData.int), .list ((rowsM (ringR rs e k) nn ms).map PyData.int), .lst (SqL.of e14) (TDs.ints _).dp, .lst (SqL.of e12') (TDs.ints _).dp, hsh.ok (by decide), hsh.ok (by decide), _, rfl, ?_⟩
          rw [ne_same]
          refine iteF ?_
          have two14 := two12.kpA (m3S k14) a3
          refine run_walked (ev_var rfl) (ed_var rfl (.int nn)) mm (by omega) two14 fun l16 H16 hl16 k16 e16 two16 => ?_
          have e12'' := k16.oth l12 _ l12c e12'
          refine ⟨_, rfl, .list ((rowsM (ringR rs e k) nn ms).map PyData.int), .list ((rowsM (ringR rs e k) nn ms).map PyData.int), .lst (SqL.of e16) (TDs.ints _).dp, .lst (SqL.of e12'') (TDs.ints _).dp, hsh.ok (by decide), hsh.ok (by decide), _, rfl, ?_⟩
          rw [ne_same]
          refine iteF ?_
          try delta tNext
          have one16 := one14.kpA (m3T k16) a4
          refine hD' _ _ ⟨_, _, rfl, (((k6S.trans (k10.sub (inS (.inl rfl)))).trans k1012.wid).trans ((m3S k14).sub (inS (.inr (.inl rfl))))).trans ((m3T k16).sub (inS (.inr (.inr rfl)))), ?_, one16, two16⟩
          exact (((D10.kp0 k1012).kp (m3S k14) (a5.out (by simp)) (a5.out (by simp))).kp (m3T k16) (a6.out (by simp)) (a6.out (by simp))).up (by omega)
        · have one10 := one9.kpA k10 a1
          have two10 := two9.kpA k10 a2
          obtain ⟨tl1, mi1, ht1⟩ := one10.ex
          obtain ⟨dx1, w1, ep1, _⟩ := mi1.o.ex
          refine seq_s ?_
          refine ⟨_, rfl, p1, dx1, _, rfl, ep1, by rcases mi1.o.tl1 with rfl | ⟨v, rfl⟩ <;> rfl, _, rfl, p1, r1, M1, G1, A1, rs, e, k, ms, tl1, nn, rfl, by omega, mi1, fun H11 k11 m11 => ?_⟩
          have one11 := one10.run (ht1.kp k11) m11
          have two11 := two10.kpA (m3S k11) a3
          obtain ⟨tl2, mi2, ht2⟩ := two11.ex
          obtain ⟨dx2, w2, ep2, _⟩ := mi2.o.ex
          refine ⟨_, rfl, p2, dx2, _, rfl, ep2, by rcases mi2.o.tl1 with rfl | ⟨v, rfl⟩ <;> rfl, _, rfl, p2, r2, M2, G2, A2, rs, e, k, ms, tl2, nn, rfl, by omega, mi2, fun H12 k12 m12 => ?_⟩
          have two12 := two11.run (ht2.kp k12) m12
          have one12 := one11.kpA (m3T k12) a4
          refine hD' _ _ ⟨_, _, rfl, ((k6S.trans (k10.sub (inS (.inl rfl)))).trans ((m3S k11).sub (inS (.inr (.inl rfl))))).trans ((m3T k12).sub (inS (.inr (.inr rfl)))), ?_, one12, two12⟩
          exact ((D10.kp (m3S k11) (a5.out (by simp)) (a5.out (by simp))).kp (m3T k12) (a6.out (by simp)) (a6.out (by simp))).up (by omega)
      · obtain ⟨o12', o13', rfl, k610, D10, one10, two10⟩ := hP
        have tel1 := B.tel.run nn
        have dn1 := runM_done (ringR rs e k) ms nn
        have ct1 := runM_cnt2 (ringR rs e k) ms nn
        generalize runM (ringR rs e k) nn ms = ms1 at one10 two10 tel1 dn1 ct1
        have hsb : SeenB ms1 := ⟨⟨by omega, by omega⟩, by omega, by omega⟩
        try dsimp only
        refine seq_s ?_
        refine st_ifF (et_F (et_neS (ed_seen (ev_var rfl) mc one10 hsb) (ed_seen (ev_var rfl) mm two10 hsb)) (by simp)) fun H11 k11 => ?_
        try delta tNext
        try dsimp only
        have one11 := one10.kp0 k11
        have two11 := two10.kp0 k11
        refine seq_s (asg_s (lcr_s ?_))
        refine run_draw (ev_var rfl) ed_i (D10.kp0 k11) (by omega) ⟨by decide, by decide⟩ fun j H12 hj k12 D12 => ⟨j, rfl, by omega, by omega, ?_⟩
        have one12 := one11.kpA k12 a1
        have two12 := two11.kpA k12 a2
        have k612 := (k610.trans k11.wid).trans (k12.sub (inS (.inl rfl)))
        have ro12 : RingO H12 (cR K) r1 rs e k := by
          obtain ⟨tl, mi, _⟩ := one12.ex
          exact mi.o.hR
        have tv12 := tv6.kp k612
        have nr1 := D12.ring ro12
        have dcx : ∀ b ∈ [d, c], ∃ o, H12 b = some o := fun b hb => by
          simp only [List.mem_cons, List.not_mem_nil, or_false] at hb
          rcases hb with rfl | rfl
          · exact D12.at.1
          · exact D12.at.2
        refine el_lcS (S := [d, c]) (I := fun t H => Deck H d c (n + 100 * i + 4 + 20 * t)) (Good := fun _ dd => ∃ fl, FltOk (wordsN rs k) (ringR rs e k).length fl ∧ dd = rowD fl) (f := fun t => .int (0 + (t : Nat))) (ei_ready (n := j.toNat) walk_range fun _ => trivial) yfn (by omega) (fun _ => rfl) dcx
          (fun H1 k => (D12.kp0 k).up (by omega)) (fun t L H1 H2 hL D1 kk => D1.kp kk (fun z => neN (dcx d (by simp)) hL (List.mem_singleton.mp z)) fun z => neN (dcx c (by simp)) hL (List.mem_singleton.mp z)) (fun t H1 ht k1 D1 Q1 q1 => ?_) fun L13 us13 ds13 H13 hL13 k13 e13 t13 l13 g13 D13 => ?_
        · have hlen : EvD (tCB (rLen K) (tCons (tVar 3) tNil)) ((wipe [some (.ref d), some (.ref r1), some (.ref r2), some v, some (.int k), some (.ref p1), some (.ref p2), some (.int (ringR rs e k).length), some (.int ((0 : Int) + (i : Nat))), some (.int nn), o10, o11, o12', o13', o14, o15] [15]).set 15 (some (.int ((0 : Int) + (t : Nat))))) H1 (.int (ws.map PyData.int).length) := ed_lenT (ed_var rfl (tv12.kp k1))
          rw [List.length_map, hw] at hlen
          refine run_fault (K := K) (ev_var rfl) (ev_var rfl) (ed_var rfl (.int k)) hlen D1 (by omega) (ro12.kp k1 fun z => by simp at z; exact z.elim nr1.1 nr1.2) hg fun fl v H2 hf k2 D2 t2 => q1 v _ H2 k2 (D2.up (by omega)) t2 ⟨fl, hf, rfl⟩
        obtain ⟨fls, rfl, hfls⟩ := all_of g13
        rw [List.length_map] at l13
        have hj2 : fls.length ≤ 2 := by omega
        have one13 := one12.kpA k13 a1
        have two13 := two12.kpA k13 a2
        have L13o : L13 ∉ [p1, M1, G1, A1] := fun z => neN (one12.adrs L13 (memD z)) hL13 rfl
        have L13p : L13 ∉ [p2, M2, G2, A2] := fun z => neN (two12.adrs L13 (memD z)) hL13 rfl
        try dsimp only
        refine seq_s ?_
        refine st_for (ei_list (ev_var rfl) e13) fun H14 k14 => ?_
        refine ⟨fun t σ' H' => ∃ o11 ms2 st2, σ' = [some (.ref d), some (.ref r1), some (.ref r2), some v, some (.int k), some (.ref p1), some (.ref p2), some (.int (ringR rs e k).length), some (.int ((0 : Int) + (i : Nat))), some (.int nn), some (.ref L13), o11, o12', o13', o14, o15] ∧ Kp [p1, M1, G1, A1, p2, M2, G2, A2] H14 H' ∧ Deck H' d c (n + 100 * i + 50) ∧
            MachR K H' (cC K) p1 r1 M1 G1 A1 rs e k ms2 (some st2) ∧ MachR K H' (cM K) p2 r2 M2 G2 A2 rs e k ms2 none ∧ Tel rs e k (ms0 k ws) ms2 st2 ∧ ms2.done = ms1.done ∧ (ms1.cnt ≤ ms2.cnt ∧ ms2.cnt ≤ ms1.cnt + t) ∧ st2.length ≤ st.length + t,
          ⟨_, ms1, st, rfl, Kp.refl _ _, (D13.kp0 k14).up (by omega), one13.kp0 k14, two13.kp0 k14, tel1, rfl, ⟨Int.le_refl _, by omega⟩, Nat.le_refl _⟩, fun t σ' H' ⟨_, _, _, _, kp, _⟩ => ⟨_, kp, fun b hb hz => ?_⟩, fun t x σ' H15 H15' ht hP hy => ?_, fun σ' H15 hP => ?_⟩
        · rw [List.mem_singleton.mp hb] at hz
          have hz : L13 ∈ [p1, M1, G1, A1] ++ [p2, M2, G2, A2] := hz
          exact (List.mem_append.mp hz).elim L13o L13p
        · obtain ⟨o11', ms2, st2, rfl, kp15, D15, one15, two15, tel2, dn2, ct2, sl2⟩ := hP
          obtain ⟨rfl, hx⟩ := hy
          obtain ⟨dd, hdd, tdd⟩ := t13.at hx
          rw [List.getElem?_map] at hdd
          obtain ⟨fl, hfl, rfl⟩ := Option.map_eq_some_iff.mp hdd
          have hok := hfls fl (List.mem_of_getElem? hfl)
          have hlt : us13.length = fls.length := by rw [t13.len, List.length_map]
          have tdx := (tdd.kp k14).kp kp15
          obtain ⟨st3, hst3, hl3⟩ := suffer_some (ms := ms2) (f := fl) (st := st2)
          obtain ⟨tl1, mi1, _⟩ := one15.ex
          obtain ⟨dx1, w1, ep1, _⟩ := mi1.o.ex
          refine seq_s ?_
          refine ⟨_, rfl, p1, dx1, _, rfl, ep1, by rcases mi1.o.tl1 with rfl | ⟨v, rfl⟩ <;> rfl, _, rfl, p1, r1, M1, G1, A1, rs, e, k, ms2, some st2, x, fl, rfl, one15, rfl, (fun s hs => by cases hs; omega), tdx, hok, fun H16 k16 one16 => ?_⟩
          rw [hst3] at one16
          have two16 := two15.kpA k16 a3
          obtain ⟨tl2, mi2, _⟩ := two16.ex
          obtain ⟨dx2, w2, ep2, _⟩ := mi2.o.ex
          refine ⟨_, rfl, p2, dx2, _, rfl, ep2, by rcases mi2.o.tl1 with rfl | ⟨v, rfl⟩ <;> rfl, _, rfl, p2, r2, M2, G2, A2, rs, e, k, ms2, none, x, fl, rfl, two16, rfl, (fun s hs => nomatch hs), tdx.kp k16, hok, fun H17 k17 two17 => ?_⟩
          rw [suffer_none] at two17
          have cnt3 := sufferM_cnt (rs := rs) (e := e) (k := k) (ms := ms2) (f := fl)
          refine ⟨_, _, st3, rfl, (kp15.trans (k16.mono fun b hb => List.mem_append_left [p2, M2, G2, A2] hb)).trans (k17.mono fun b hb => List.mem_append_right [p1, M1, G1, A1] hb), (D15.kp k16 (a5.out (by simp)) (a5.out (by simp))).kp k17 (a6.out (by simp)) (a6.out (by simp)), one16.kpA k17 a4, two17, tel2.hit hok hst3, by rw [sufferM_done, dn2], ⟨by omega, by omega⟩, by omega⟩
        · obtain ⟨o11', ms2, st2, rfl, kp15, D15, one15, two15, tel2, dn2, ct2, sl2⟩ := hP
          have hlt : us13.length = fls.length := by rw [t13.len, List.length_map]
          rw [hlt] at ct2 sl2
          have hsb2 : SeenB ms2 := ⟨⟨by omega, by omega⟩, by omega, by omega⟩
          try dsimp only
          refine st_ifF (et_F (et_neS (ed_seen (ev_var rfl) mc one15 hsb2) (ed_seen (ev_var rfl) mm two15 hsb2)) (by simp)) fun H18 k18 => ?_
          try delta tNext
          refine ⟨_, _, _, _, _, _, _, _, ms2, st2, rfl, kp.trans ((((k612.trans (k13.sub (inS (.inl rfl)))).trans k14.wid).trans (kp15.mono fun b hb => List.mem_append_right [d, c] hb)).trans k18.wid), ⟨(D15.kp0 k18).up (by omega), one15.kp0 k18, two15.kp0 k18, tel2, ⟨by omega, by omega⟩, ⟨by omega, by omega⟩, by omega⟩⟩
    · obtain ⟨o8, o9, o10, o11, o12, o13, o14, o15, ms, st, rfl, kp, B⟩ := hP
      have hd := B.dn
      have hct := B.ct
      have hsb : SeenB ms := ⟨⟨hd.1, by omega⟩, hct.1, by omega⟩
      have tv6 := ((tv4.kp k5).kp kp)
      have ro6 : RingO H6 (cR K) r2 rs e k := by
        obtain ⟨tl, mi, _⟩ := B.two.ex
        exact mi.o.hR
      dsimp only
      refine seq_s (asg_s ?_)
      refine run_make (K := K) (C := cM K) (st0 := none) (ev_var rfl) (ed_var rfl tv6) ro6 hg hw hwk fun p3 M3 G3 A3 H7 k7 f3 m3 => ?_
      try dsimp only
      have one7 := B.one.kp0 k7
      obtain ⟨tl1, mi1, _⟩ := one7.ex
      obtain ⟨dx1, w1, ep1, _⟩ := mi1.o.ex
      obtain ⟨tl3, mi3, ht3⟩ := m3.ex
      obtain ⟨dx3, w3, ep3, _⟩ := mi3.o.ex
      refine seq_s ?_
      refine ⟨_, rfl, p3, dx3, _, rfl, ep3, by rcases mi3.o.tl1 with rfl | ⟨v, rfl⟩ <;> rfl, ?_⟩
      refine ⟨_, rfl, p1, dx1, _, rfl, ep1, p1, r1, M1, G1, A1, rs, e, k, ms, st, rfl, one7, fun vS tS => ?_⟩
      refine (ed_MD (C := cC K) (g := fun _ _ _ ms => .int ms.done) (ev_var rfl) one7) H7 (Kp.refl _ _) _ fun v8 H8 k8 t8 => ?_
      cases t8
      refine ⟨p3, r2, M3, G3, A3, rs, e, k, ms0 k ws, vS, st, ms.done, rfl, m3.kp0 k8, hm0.1, by omega, tS.kp k8, B.tel.pl, fun H9 k9 m9 => ?_⟩
      rw [← B.tel.eq] at m9
      have a7 : Apt [p3, M3, G3, A3] [p1, M1, G1, A1, r1] := fun b hb hz => neN (B.one.adrs b hz) (f3 b hb) rfl
      have a8 : Apt [p3, M3, G3, A3] [d, c] := fun b hb hz => neN (by
        simp only [List.mem_cons, List.not_mem_nil, or_false] at hz
        rcases hz with rfl | rfl
        · exact B.dk.at.1
        · exact B.dk.at.2) (f3 b hb) rfl
      have one9 := (one7.kp0 k8).kpA k9 a7
      refine sd_ret (d := .bool (decide ((seenD rd rs e k ms).shown = (seenD rd rs e k ms).shown))) (ed_eqS (ed_seen (ev_var rfl) mm m9 hsb) (ed_seen (ev_var rfl) mc one9 hsb)) fun v10 H10 k10 t10 => ?_
      rw [decide_eq_true rfl] at t10
      cases t10
      have dk9 := ((B.dk.kp0 k7).kp0 k8).kp k9 (a8.out (by simp)) (a8.out (by simp))
      refine q H10 ?_ ((dk9.kp0 k10).up (by omega))
      have kL : Kp [d, c] H H6 := (k04.trans k5).wid.thenM kp fun b hb => by
        simp only [List.mem_cons, List.not_mem_nil, or_false] at hb
        have g1 : ∀ b ∈ [p2, M2, G2, A2], H b = none := fun b hb => k1.free (f2 b hb)
        rcases hb with rfl | rfl | rfl | rfl | rfl | rfl | rfl | rfl | rfl | rfl
        · exact .inl (by simp)
        · exact .inl (by simp)
        · exact .inr (f1 _ (by simp))
        · exact .inr (f1 _ (by simp))
        · exact .inr (f1 _ (by simp))
        · exact .inr (f1 _ (by simp))
        · exact .inr (g1 _ (by simp))
        · exact .inr (g1 _ (by simp))
        · exact .inr (g1 _ (by simp))
        · exact .inr (g1 _ (by simp))
      refine (kL.thenM (((k7.trans k8).wid.thenM k9 fun b hb => .inr (f3 b hb) : Kp [] H6 H9)) fun _ z => nomatch z).trans k10.wid
end
end Sr
/-! The law. -/
namespace Sr
open PySem PySem.Spec PyProof.Rows L2
section
variable {P : Program} {w : World} {K : PySem.W.Frag} {mg : Str → Option Value} {base : Heap} {f : Addr} {fd : FuncData}
abbrev s_law : Stmt := top 98
theorem sc_law : FnScope ["_law_script", "_law_deck_here", "_law_turn", "_law_given", "_law_first", "_law_e", "_law_count", "_law_ring", "_law_read"] ["_law_script"] (defScope s_law) := ⟨rfl, rfl, rfl, by decide +kernel, rfl, by decide +kernel, by decide +kernel⟩
def sp_law (K : PySem.W.Frag) : Sp := fun vs H Q _ => ∃ (l : Addr) (xs : List Int), vs = [.ref l] ∧ SqL K H l (xs.map V.int) ∧ ∀ H', Q (.bl true) H'
theorem ok_law (F : At K mg "law" "law" s_law ["_law_script"] f fd) (T : Txt K mg) (g__law_deck : GF P w K mg base 1 "_law_deck" ["_law_script"] (sp__law_deck K)) (g__law_counter : GF P w K mg base 5 "_law_counter" ["_law_deck_here", "_law_most", "_law_more"] sp__law_counter)
    (g__law_draw : GF P w K mg base 1 "_law_draw" ["_law_deck_here", "_law_many"] sp__law_draw) (k_Ring : GMkK P w K mg base 7 1 "Ring" (cR K) ["self", "recipes", "faults", "copies"] ["faults", "copies"] (sp_Ring_init (cR K)))
    (c_read : GCm P w K mg base 9 1 (cR K) "read" ["cls", "rows", "faults", "copies", "size"] ["faults", "copies", "size"] (sp_Ring_read (cR K))) (g__law_rows : GF P w K mg base 3 "_law_rows" ["_law_given", "_law_e", "_law_count"] sp__law_rows)
    (g__law_beside_right : GFG P w K mg base 11 "_law_beside_right" ["_law_deck_here", "_law_ring", "_law_read", "_law_first", "_law_count"] (sp__law_beside_right K)) : FnG P w K mg base 12 f fd ["_law_script"] (sp_law K) := by
  refine fnG F.fn sc_law (fun vs H Q E h => ?_) (fun cdv A0 outer s H vs Q E hg0 hr h => ?_)
  · obtain ⟨l, xs, rfl, _⟩ := h
    rfl
  · obtain ⟨l, xs, rfl, hl, q⟩ := h
    refine ⟨_, (pss_cons (ps_set (i := 1) sc_law.nd rfl (Or.inl rfl) (pe_gf g__law_deck (hr.mono (by decide)) rfl (pa_cons (pv 0) pa_nil)))
      (pss_cons (ps_for PassesOwn.never rfl (pi_range1 rfl T.f_range (pa_cons pe_int pa_nil)) (pg_name (i := 2) sc_law.nd rfl (Or.inl rfl)) (pss_cons (ps_asg (pe_gf g__law_counter (hr.mono (by decide)) rfl (pa_cons (pv 1) (pa_cons pe_int (pa_cons pe_int pa_nil)))) (pg_tup rfl (pgs_cons (pg_name (i := 3) sc_law.nd rfl (Or.inl rfl)) (pgs_cons (pg_name (i := 4) sc_law.nd rfl (Or.inl rfl)) pgs_nil))))
      (pss_cons (ps_par (i := 5) (j := 6) rfl sc_law.nd rfl rfl (by decide) rfl rfl (pa_cons (pe_gf g__law_draw (hr.mono (by decide)) rfl (pa_cons (pv 1) (pa_cons pe_int pa_nil))) (pa_cons (pe_op op_add pe_int (pe_gf g__law_draw (hr.mono (by decide)) rfl (pa_cons (pv 1) (pa_cons pe_int pa_nil)))) pa_nil)) rfl)
      (pss_cons (ps_set (i := 7) sc_law.nd rfl (Or.inl rfl) (pe_mkK k_Ring (hr.mono (by decide)) rfl (pa_cons (pv 3) pa_nil) (pk_cons (pv 5) (pk_cons (pv 6) pk_nil))))
      (pss_cons (ps_set (i := 8) sc_law.nd rfl (Or.inl rfl) (pe_cmG c_read hg0 (hr.mono (by decide)) (pe_glob (v := .ref (cR K)) rfl T.g_Ring rfl) (pa_cons (pe_gf g__law_rows (hr.mono (by decide)) rfl (pa_cons (pv 3) (pa_cons (pv 5) (pa_cons (pv 6) pa_nil)))) pa_nil) (pk_cons (pv 5) (pk_cons (pv 6) (pk_cons (pe_callB (r := rLen K) call_len_seq rfl T.f_len PySem.boot_len (pa_cons (pv 3) pa_nil)) pk_nil)))))
      (pss_one (ps_if (pt_not (pt_val (pe_gfG g__law_beside_right hg0 (hr.mono (by decide)) rfl (pa_cons (pv 1) (pa_cons (pv 7) (pa_cons (pv 8) (pa_cons (pv 4) (pa_cons (pv 6) pa_nil)))))))) (pss_one (ps_ret pe_bl)) pss_nil)))))))
      (pss_one (ps_ret pe_bl)))), ?_⟩
    refine seq_s (asg_s ?_)
    refine ⟨_, rfl, l, xs, rfl, hl, fun d c H1 k1 hd hc D1 => ?_⟩
    try dsimp only
    refine seq_s ?_
    refine st_for (ei_range (n := 3) ed_i rfl (by decide)) fun H2 k2 => ?_
    refine ⟨fun i σ' H' => ∃ o2 o3 o4 o5 o6 o7 o8, σ' = [some (.ref l), some (.ref d), o2, o3, o4, o5, o6, o7, o8] ∧ Kp [d, c] H2 H' ∧ Deck H' d c (2000 * i), ⟨_, _, _, _, _, _, _, rfl, Kp.refl _ _, D1.kp0 k2⟩, fun i σ' H' ⟨_, _, _, _, _, _, _, _, kp, _⟩ => ⟨_, kp, fun _ z => nomatch z⟩, fun i x σ' H3 H3' hi hP hy => ?_, fun σ' H3 hP => ?_⟩
    · obtain ⟨o2, o3, o4, o5, o6, o7, o8, rfl, kp, D3⟩ := hP
      obtain ⟨rfl, rfl⟩ := hy
      refine seq_s (asg_s ?_)
      refine ⟨_, rfl, d, c, _, rfl, D3, by omega, fun rs ws v H4 hrs hlen hws k4 D4 t4 => ?_⟩
      obtain ⟨a4, xs4, rfl, ea4, ra4⟩ := t4.tupI
      cases ra4 with | cons tg ra4 => cases ra4 with | cons tf ra4 =>
      cases ra4
      rename_i vg vf
      refine ⟨a4, _, rfl, SqT.of ea4, rfl, ⟨_, _, rfl, ⟨_, _, rfl, rfl, ?_⟩⟩⟩
      try dsimp only
      refine seq_s ?_
      refine run_draw (ev_var rfl) ed_i D4 (by omega) ⟨by decide, by decide⟩ fun e H5 he k5 D5 => ?_
      refine run_draw (ev_var rfl) ed_i D5 (by omega) ⟨by decide, by decide⟩ fun j H6 hj k6 D6 => ⟨_, _, rfl, rfl, _, _, rfl, ?_⟩
      obtain ⟨k, hk⟩ : ∃ k : Nat, 1 + j = (k : Int) := Int.eq_ofNat_of_zero_le (by omega)
      dsimp only
      rw [hk]
      have hg : RingG rs e k := ⟨hrs.2, ⟨he.1, by omega⟩, by omega⟩
      have k46 := k5.trans k6
      have tg6 := tg.kp k46
      have tf6 := tf.kp k46
      try dsimp only
      refine seq_s (asg_s ?_)
      refine ⟨_, rfl, _, rfl, _, rfl, rfl, rfl, fun p dp hp hdp hnp => ?_⟩
      obtain ⟨kn, en⟩ := newIns (C := cR K) hp hdp hnp
      refine ⟨p, dp, vg, e, k, rs, rfl, en, tg6.kp kn, hg, fun H7 k7 ro7 => ⟨rfl, ?_⟩⟩
      have k67 : Kp [] H6 H7 := kn.thenM k7 fun b m => .inr (by rw [List.mem_singleton.mp m]; exact hp)
      have D7 := D6.kp0 k67
      have tg7 := tg6.kp k67
      have tf7 := tf6.kp k67
      try dsimp only
      refine seq_s (asg_s ?_)
      refine ⟨rfl, _, rfl, _, rfl, _, rfl, vg, e, k, rs, rfl, tg7, hrs.2, by have := hg.k; omega, fun u H8 k8 t8 => ?_⟩
      refine ⟨_, rfl, _, rfl, ?_⟩
      have tg8 := tg7.kp k8
      have hlenE : EvD (tCB (rLen K) (tCons (tVar 3) tNil)) [some (.ref l), some (.ref d), some (.int ((0 : Int) + (i : Nat))), some vg, some vf, some (.int e), some (.int k), some (.ref p), o8] H8 (.int (rs.map recD).length) := ed_lenT (ed_var rfl tg8)
      rw [List.length_map] at hlenE
      refine hlenE H8 (Kp.refl _ _) _ fun v9 H9 k9 t9 => ?_
      cases t9
      refine ⟨rfl, rfl, u, rs, e, k, rfl, t8.kp k9, hg, fun p2 H10 k10 hp2 ro10 => ?_⟩
      have k710 := (k8.trans k9).trans k10
      have D10 := D7.kp0 k710
      try dsimp only
      have hbr : EvD (tVar 1) [some (V.ref l), some (.ref d), some (.int ((0 : Int) + (i : Nat))), some vg, some vf, some (.int e), some (.int k), some (.ref p), some (.ref p2)] H10 (.bool true) → True := fun _ => trivial
      show tIfS _ _ _ _ _ _
      refine ⟨_, rfl, _, rfl, _, rfl, _, rfl, _, rfl, d, c, p, p2, vf, rs, e, k, _, ws, rfl, D10, ?_, ro7.kp k710 (fun z => nomatch z), ro10, hg, tf7.kp k710, hlen, hws, fun H11 k11 D11 => ⟨_, rfl, ?_⟩⟩
      · omega
      · refine iteF ?_
        try delta tNext
        refine ⟨_, _, _, _, _, _, _, rfl, ((kp.trans (k4.trans k46)).trans (k67.trans k710).wid).trans k11, D11.up (by omega)⟩
    · obtain ⟨o2, o3, o4, o5, o6, o7, o8, rfl, kp, D3⟩ := hP
      exact q H3
end
end Sr
/-! Reading: the stores. -/
namespace Sr
open PySem PySem.Spec PyProof.Rows L2
abbrev Sto := Int × List Int × Int
def stoD (s : Sto) : PyData := .tuple [.int s.1, .tuple (s.2.1.map PyData.int), .int s.2.2]
/-- the store at a, of n words beside the two counts -/
def stoA (mem : List Int) (a : Int) (n : Nat) : Sto := (gI mem a, sliceI mem (a + 1) n, gI mem (a + n + 1))
def stosD (mem : List Int) (n : Nat) (c : Nat) : PyData := .tuple [stoD (stoA mem (4 * ((n : Int) + 2) * c) n), stoD (stoA mem (4 * ((n : Int) + 2) * c + ((n : Int) + 2)) n)]
theorem gI_slice {mem : List Int} {a : Int} {n i : Nat} (h0 : 0 ≤ a) (h1 : a + (n : Int) ≤ mem.length) (hi : i < n) : (sliceI mem a n)[i]? = some (gI mem (a + i)) := by
  obtain ⟨a', rfl⟩ := Int.eq_ofNat_of_zero_le h0
  unfold sliceI gI
  rw [List.getElem?_take_of_lt (by omega), List.getElem?_drop]
  have e : ((a' : Int) + (i : Int)).toNat = a' + i := by omega
  rw [e, Int.toNat_natCast, List.getElem?_eq_getElem (by omega)]
  rfl
theorem slice_mid {mem : List Int} {a : Int} {n : Nat} (h0 : 0 ≤ a) : ((sliceI mem a ((n : Int) + 2)).drop 1).take (n + 1 - 1) = sliceI mem (a + 1) n := by
  obtain ⟨a', rfl⟩ := Int.eq_ofNat_of_zero_le h0
  unfold sliceI
  apply List.ext_getElem?
  intro j
  simp only [List.getElem?_take, List.getElem?_drop]
  by_cases hj : j < n
  · rw [if_pos (by omega), if_pos (by omega), if_pos (by omega)]
    congr 1
    omega
  · rw [if_neg (by omega), if_neg (by omega)]
theorem stoA_ok {mem : List Int} {a : Int} {n : Nat} (h : ∀ x ∈ mem, wOk x) : wOk (stoA mem a n).1 ∧ (∀ x ∈ (stoA mem a n).2.1, wOk x) ∧ wOk (stoA mem a n).2.2 :=
  ⟨gI_ok h, fun x m => h x (List.mem_of_mem_drop (List.mem_of_mem_take m)), gI_ok h⟩
section
variable {P : Program} {w : World} {K : PySem.W.Frag} {mg : Str → Option Value} {base : Heap} {f : Addr} {fd : FuncData}
abbrev s_store_at : Stmt := top 66
theorem sc_store_at : FnScope ["memory", "address", "length", "words"] ["memory", "address", "length"] (defScope s_store_at) := ⟨rfl, rfl, rfl, by decide +kernel, rfl, by decide +kernel, by decide +kernel⟩
def sp_store_at : Sp := fun vs H Q _ => ∃ (l : Addr) (mem : List Int) (a : Int) (n : Nat), vs = [.ref l, .int a, .int ((n : Int) + 2)] ∧ H l = some (.lst (mem.map V.int)) ∧ (1 ≤ n ∧ n ≤ 4) ∧ 0 ≤ a ∧ a + ((n : Int) + 2) ≤ mem.length ∧ ∀ v H', Kp [] H H' → TD H' v (stoD (stoA mem a n)) → Q v H'
theorem ok_store_at (F : At K mg "store_at" "store_at" s_store_at ["memory", "address", "length"] f fd) (T : Txt K mg) : FnOk P w K mg base CX0 1 f fd ["memory", "address", "length"] sp_store_at := by
  refine F.fn.ok sc_store_at (fun vs H Q E h => ?_) (fun cdv A0 outer s H vs Q E hr h => ?_)
  · obtain ⟨l, mem, a, n, rfl, _⟩ := h
    rfl
  · obtain ⟨l, mem, a, n, rfl, hl, hn, ha, hz, q⟩ := h
    refine ⟨_, (pss_cons (ps_set (i := 3) sc_store_at.nd rfl (Or.inl rfl) (pe_callTy call_tuple_of rfl T.f_tuple (by decide +kernel) (pa_cons (pe_slice (r := rSlL K) sl_list (pv 0) (po_some (pv 1)) (po_some (pe_op op_add (pv 1) (pv 2)))) pa_nil)))
      (pss_one (ps_ret (pe_tup (pa_cons (pe_ix (r := rIxT K) ix_tup (pv 3) pe_int (fun _ _ => rfl)) (pa_cons (pe_slice (r := rSlT K) sl_tup (pv 3) (po_some pe_int) (po_some (pe_un un_neg pe_int))) (pa_cons (pe_ix (r := rIxT K) ix_tup (pv 3) (pe_un un_neg pe_int) (fun _ _ => rfl)) pa_nil))))))), ?_⟩
    refine sd_set (d := .tuple ((sliceI mem a ((n : Int) + 2)).map PyData.int)) (ed_tupleL (EvL.l0 (el_sliceI (K := K) (ev_var rfl) hl (eo_some (ed_var rfl (.int a))) (eo_some (ed_add (ed_var rfl (.int a)) (ed_var rfl (.int _)))) ha (by omega) hz))) fun v1 H1 k1 t1 => ?_
    have hlen : (sliceI mem a ((n : Int) + 2)).length = n + 2 := by rw [sliceI_len ha (by omega) hz]; omega
    have hat : ∀ i : Nat, i < n + 2 → (sliceI mem a ((n : Int) + 2))[i]? = some (gI mem (a + i)) := fun i hi => gI_slice (n := n + 2) ha (by omega) hi
    try dsimp only
    have e0 : L2.atI ((sliceI mem a ((n : Int) + 2)).map PyData.int) 0 = some (.int (gI mem a)) := L2.atI_nat (j := 0) (by
      rw [List.getElem?_map, hat 0 (by omega)]
      show some (PyData.int (gI mem (a + (0 : Nat)))) = _
      rw [show a + ((0 : Nat) : Int) = a by omega])
    have e1 : L2.atI ((sliceI mem a ((n : Int) + 2)).map PyData.int) (-1) = some (.int (gI mem (a + n + 1))) := by
      unfold L2.atI ixN
      rw [List.length_map, hlen, if_neg (by omega), if_pos (by omega)]
      show ((sliceI mem a ((n : Int) + 2)).map PyData.int)[((-1 : Int) + ((n + 2 : Nat) : Int)).toNat]? = _
      rw [show ((-1 : Int) + ((n + 2 : Nat) : Int)).toNat = n + 1 by omega, List.getElem?_map, hat (n + 1) (by omega)]
      show some (PyData.int (gI mem (a + ((n + 1 : Nat) : Int)))) = _
      rw [show a + ((n + 1 : Nat) : Int) = a + n + 1 by omega]
    have e2 : cutD ((sliceI mem a ((n : Int) + 2)).map PyData.int) (some 1) (some (-1)) = (sliceI mem (a + 1) n).map PyData.int := by
      unfold cutD
      rw [List.length_map, hlen]
      have s1 : HT.sIx (n + 2) 0 (some 1) = 1 := by
        rw [show (some (1 : Int)) = some ((1 : Nat) : Int) from rfl, HT.sIx_nat]
        exact Nat.min_eq_left (by omega)
      have s2 : HT.sIx (n + 2) (n + 2) (some (-1)) = n + 1 := by
        show (if (-1 : Int) < 0 then ((-1 : Int) + ((n + 2 : Nat) : Int)).toNat else min (-1 : Int).toNat (n + 2)) = _
        rw [if_pos (by decide)]
        omega
      rw [s1, s2, ← List.map_drop, ← List.map_take]
      rw [slice_mid ha]
    refine sd_ret (d := stoD (stoA mem a n)) (ed_tup (eds_cons (ed_ixT (ed_var rfl t1) ed_i e0) (eds_cons ?_ (eds_cons (ed_ixT (ed_var rfl t1) (ed_neg ed_i) e1) eds_nil)))) fun v2 H2 k2 t2 => q v2 H2 (k1.trans k2) t2
    show EvD _ _ _ (.tuple ((sliceI mem (a + 1) n).map PyData.int))
    rw [← e2]
    refine ed_slT (ed_var rfl t1) (eo_some ed_i) (eo_some (ed_neg ed_i)) (fun z => ?_)
    have z1 := z.1
    rw [show (some (1 : Int)) = some ((1 : Nat) : Int) from rfl, HT.sIx_nat, List.length_map, hlen] at z1
    omega
abbrev s_is_whole : Stmt := top 67
theorem sc_is_whole : FnScope ["store"] ["store"] (defScope s_is_whole) := ⟨rfl, rfl, rfl, by decide +kernel, rfl, by decide +kernel, by decide +kernel⟩
def sp_is_whole : Sp := fun vs H Q _ => ∃ (v : V) (s : Sto), vs = [v] ∧ TD H v (stoD s) ∧ ∀ H', Kp [] H H' → Q (.bl (decide (s.1 = s.2.2))) H'
theorem ok_is_whole (F : At K mg "is_whole" "is_whole" s_is_whole ["store"] f fd) (T : Txt K mg) : FnOk P w K mg base CX0 1 f fd ["store"] sp_is_whole := by
  refine F.fn.ok sc_is_whole (fun vs H Q E h => ?_) (fun cdv A0 outer s H vs Q E hr h => ?_)
  · obtain ⟨v, st, rfl, _⟩ := h
    rfl
  · obtain ⟨v, st, rfl, tv, q⟩ := h
    refine ⟨_, (pss_one (ps_ret (pe_cmpR op_eq (pe_ix (r := rIxT K) ix_tup (pv 0) pe_int (fun _ _ => rfl)) (pe_ix (r := rIxT K) ix_tup (pv 0) pe_int (fun _ _ => rfl)) (nomark _)))), ?_⟩
    refine sd_ret (ed_eqI (ed_ixT (ed_var rfl tv) ed_i at0) (ed_ixT (ed_var rfl tv) ed_i at2)) fun v1 H1 k1 t1 => ?_
    cases t1
    exact q H1 k1
abbrev s_stores_of : Stmt := top 68
theorem sc_stores_of : FnScope ["ring", "memory", "copy", "length", "first"] ["ring", "memory", "copy"] (defScope s_stores_of) := ⟨rfl, rfl, rfl, by decide +kernel, rfl, by decide +kernel, by decide +kernel⟩
def sp_stores_of (K : PySem.W.Frag) : Sp := fun vs H Q _ => ∃ (ring l : Addr) (rs : List Rec) (e : Int) (k c : Nat) (mem : List Int), vs = [.ref ring, .ref l, .int c] ∧ RingO H (cR K) ring rs e k ∧ RingG rs e k ∧ H l = some (.lst (mem.map V.int)) ∧ (mem.length : Int) = wordsN rs k ∧ c < k ∧ ∀ v H', Kp [] H H' → TD H' v (stosD mem rs.length c) → Q v H'
theorem ok_stores_of (F : At K mg "stores_of" "stores_of" s_stores_of ["ring", "memory", "copy"] f fd) (T : Txt K mg) (p_size : GP P w K mg base 1 (cR K) "size" (sp_Rn (cR K) fun rs _ _ => rs.length)) (g_store_at : GF P w K mg base 1 "store_at" ["memory", "address", "length"] sp_store_at) : FnOk P w K mg base CX0 3 f fd ["ring", "memory", "copy"] (sp_stores_of K) := by
  refine F.fn.ok sc_stores_of (fun vs H Q E h => ?_) (fun cdv A0 outer s H vs Q E hr h => ?_)
  · obtain ⟨ring, l, rs, e, k, c, mem, rfl, _⟩ := h
    rfl
  · obtain ⟨ring, l, rs, e, k, c, mem, rfl, ro_, hg, hl, hm, hc, q⟩ := h
    refine ⟨_, (pss_cons (ps_set (i := 3) sc_stores_of.nd rfl (Or.inl rfl) (pe_op op_add (pe_gp p_size (hr.mono (by decide)) (pv 0)) pe_int))
      (pss_cons (ps_set (i := 4) sc_stores_of.nd rfl (Or.inl rfl) (pe_op op_mul (pe_op op_mul (pe_gi T.c_STORES_reading rfl) (pv 3)) (pv 2)))
      (pss_one (ps_ret (pe_tup (pa_cons (pe_gf g_store_at (hr.mono (by decide)) rfl (pa_cons (pv 1) (pa_cons (pv 4) (pa_cons (pv 3) pa_nil)))) (pa_cons (pe_gf g_store_at (hr.mono (by decide)) rfl (pa_cons (pv 1) (pa_cons (pe_op op_add (pv 4) (pv 3)) (pa_cons (pv 3) pa_nil)))) pa_nil))))))), ?_⟩
    have hgn := hg.rs.1
    have hgk := hg.k
    refine sd_set (ed_add (ed_Rn (ev_var rfl) ro_ hg) ed_i) fun v1 H1 k1 t1 => ?_
    cases t1
    try dsimp only
    refine sd_set (ed_mul (ed_mul ed_i (ed_var rfl (.int _)) (.inl ⟨by decide, by decide⟩)) (ed_var rfl (.int c)) (.inl ⟨by omega, by omega⟩)) fun v2 H2 k2 t2 => ?_
    cases t2
    try dsimp only
    have hb : 0 ≤ 4 * ((rs.length : Int) + 2) * c := Int.mul_nonneg (by omega) (by omega)
    have hb2 : 4 * ((rs.length : Int) + 2) * c + 4 * ((rs.length : Int) + 2) ≤ mem.length := by
      rw [hm]
      unfold wordsN
      have : 4 * ((rs.length : Int) + 2) * ((c : Int) + 1) ≤ 4 * ((rs.length : Int) + 2) * (k : Int) := Int.mul_le_mul_of_nonneg_left (by omega) (by omega)
      rw [Int.mul_add, Int.mul_one] at this
      exact this
    have k12 := k1.trans k2
    have one : ∀ {ta : TE} {σ : L2.St} {H3 : Hp} {a : Int}, Kp [] H2 H3 → σ[1]? = some (some (.ref l)) → σ[3]? = some (some (.int ((rs.length : Int) + 2))) → EvD ta σ H3 (.int a) → 0 ≤ a → a + ((rs.length : Int) + 2) ≤ mem.length → EvD (tCall sp_store_at [] E0 (tCons (tVar 1) (tCons ta (tCons (tVar 3) tNil)))) σ H3 (stoD (stoA mem a rs.length)) := fun {ta σ H3 a} k3 h1 h3 ha h0 hz H4 k4 Q4 q4 =>
      ⟨_, h1, ev_i ha H4 k4 _ fun H5 k5 => ⟨_, h3, l, mem, a, rs.length, rfl, (((k12.trans k3).trans k4).trans k5).get hl, ⟨by omega, by omega⟩, h0, hz, fun v H6 k6 t6 => q4 v H6 (k5.trans k6) t6⟩⟩
    refine sd_ret (d := stosD mem rs.length c) (ed_tup (eds_cons (one (Kp.refl _ _) rfl rfl (ed_var rfl (.int _)) hb (by omega)) (eds_cons (one (Kp.refl _ _) rfl rfl (ed_add (ed_var rfl (.int _)) (ed_var rfl (.int _))) (by omega) (by omega)) eds_nil))) fun v3 H3 k3 t3 => q v3 H3 (k12.trans k3) t3
end
end Sr
/-! Small questions asked of pairs (a number, a tuple of numbers). -/
namespace Sr
open PySem PySem.Spec PyProof.Rows L2
abbrev PK := Int × List Int
def keyP (k : PK) : NestedKey := .tup [.num k.1, .tup (k.2.map NestedKey.num)]
theorem keyP_inj {a b : PK} (h : keyP a = keyP b) : a = b := by
  unfold keyP at h
  injection h with h
  injection h with h1 h2
  injection h1 with h1
  injection h2 with h2 _
  injection h2 with h2
  have h3 : a.2 = b.2 := (List.map_inj_right fun x y e => by injection e).mp h2
  exact Prod.ext h1 h3
/-- the tuple of numbers at b -/
def NumT (h : Heap) (ws : List Int) (b : Addr) : Prop := ∃ o items n, h.get? b = some o ∧ o.cls = .type "tuple" ∧ o.data = .seq items n ∧ IntsAre items.toList ws
/-- the pair at a -/
def PairT (h : Heap) (k : PK) (a : Addr) : Prop := ∃ o b t n, h.get? a = some o ∧ o.cls = .type "tuple" ∧ o.data = .seq #[.int k.1 t, .ref b] n ∧ NumT h k.2 b
theorem ints_all {h : Heap} : ∀ {vs : List Value} {ws : List Int}, IntsAre vs ws → NestedAll h (ws.map NestedKey.num) vs
  | _, _, .nil => .nil
  | _, _, .cons i t r => .cons (.int i t) (ints_all r)
theorem NumT.nested {h : Heap} {ws : List Int} {b : Addr} (x : NumT h ws b) : NestedIs h (.tup (ws.map NestedKey.num)) (.ref b) := by
  obtain ⟨o, items, n, ho, hc, hd, hi⟩ := x
  exact .tup ho hc hd (ints_all hi)
theorem num_depth : ∀ ws : List Int, NestedKey.depthAll (ws.map NestedKey.num) = 0
  | [] => rfl
  | w :: ws => by rw [List.map_cons, NestedKey.depthAll, num_depth ws]; rfl
theorem PairT.nested {P : Program} {w : World} {h : Heap} {k : PK} {a : Addr} (x : PairT h k a) : (nestedKind P w).is h (keyP k) a := by
  obtain ⟨o, b, t, n, ho, hc, hd, hb⟩ := x
  refine ⟨.tup ho hc hd (.cons (.int _ t) (.cons hb.nested .nil)), ?_⟩
  unfold keyP
  simp [NestedKey.depth, NestedKey.depthAll, num_depth]
section
variable {P : Program} {w : World} {A : Around} {E : Value → Shared → Prop} {s : Shared}
theorem ints_each {vs : List Value} {ws : List Int} (h : IntsAre vs ws) : ∀ v ∈ vs, ∃ i t, v = Value.int i t := by
  induction h with
  | nil => intro v m; cases m
  | cons i t r ih =>
    intro v m
    cases m with
    | head => exact ⟨_, _, rfl⟩
    | tail _ m => exact ih v m
/-- a question put to each item of a tuple, its answer always b -/
theorem asks_cls {a : Addr} {o : Obj} {items : Array Value} {m : Nat} {n : Nat} {Q : Bool → Shared → Prop} (ho : s.heap.get? a = some o) (hc : o.cls = .type "tuple") (hd : o.data = .seq items m)
    (hi : ∀ v ∈ items.toList, ∀ Q' : Bool → Shared → Prop, Q' false s → wpAny (model P w) A (ofAClassStatement n v) Q' E s) (h : Q false s) : wpAny (model P w) A (ofAClassStatement (n + 1) (.ref a)) Q E s := by
  unfold ofAClassStatement
  refine wpAny_bind (wpAny_typeOf (T := "tuple") ⟨o, ho, hc⟩ ?_)
  dsimp only
  have et : (("tuple" : String) == "tuple") = true := by decide
  simp only [et, if_true, Bool.not_true, Bool.false_eq_true, if_false]
  try refine wpAny_bind (wpAny_pure ?_)
  try simp only [Bool.not_true, Bool.false_eq_true, if_false]
  show wpAny _ _ (seqItems? (.ref a) >>= _) _ _ s
  refine wpAny_bind (wpAny_seqItems ho hd ?_)
  dsimp only
  refine wpAny_bind ?_
  show wpAny _ _ (forIn items _ _) _ _ s
  rw [← Array.forIn_toList]
  refine wpAny_forIn_list _ (fun left acc s1 => acc.1 = none ∧ s1 = s ∧ ∀ v ∈ left, v ∈ items.toList) _ ?_ ?_ _ _ ⟨rfl, rfl, fun _ m => m⟩
  · rintro v left acc s1 ⟨ha, rfl, hm⟩
    refine wpAny_bind (hi v (hm v List.mem_cons_self) _ ?_)
    simp only [Bool.false_eq_true, if_false]
    exact wpAny_pure ⟨rfl, rfl, fun u q => hm u (List.mem_cons_of_mem _ q)⟩
  · rintro ⟨x1, x2⟩ s1 ⟨ha, rfl, _⟩
    simp only at ha
    subst ha
    exact wpAny_pure h
theorem asks_hash {a : Addr} {o : Obj} {items : Array Value} {m : Nat} {n : Nat} {Q : Bool → Shared → Prop} (ho : s.heap.get? a = some o) (hc : o.cls = .type "tuple") (hd : o.data = .seq items m)
    (hi : ∀ v ∈ items.toList, ∀ Q' : Bool → Shared → Prop, Q' true s → wpAny (model P w) A (hashByValue n v) Q' E s) (h : Q true s) : wpAny (model P w) A (hashByValue (n + 1) (.ref a)) Q E s := by
  unfold hashByValue
  refine wpAny_bind (wpAny_specialOf (T := "tuple") ⟨o, ho, hc⟩ F.slot_tuple_hash.lookup ?_)
  show wpAny _ _ (seqItems? (.ref a) >>= _) _ _ s
  refine wpAny_bind (wpAny_seqItems ho hd ?_)
  refine wpAny_bind ?_
  show wpAny _ _ (forIn items _ _) _ _ s
  rw [← Array.forIn_toList]
  refine wpAny_forIn_list _ (fun left acc s1 => acc.1 = none ∧ s1 = s ∧ ∀ v ∈ left, v ∈ items.toList) _ ?_ ?_ _ _ ⟨rfl, rfl, fun _ m => m⟩
  · rintro v left acc s1 ⟨ha, rfl, hm⟩
    refine wpAny_bind (hi v (hm v List.mem_cons_self) _ ?_)
    simp only [Bool.not_true, Bool.false_eq_true, if_false]
    exact wpAny_pure ⟨rfl, rfl, fun u q => hm u (List.mem_cons_of_mem _ q)⟩
  · rintro ⟨x1, x2⟩ s1 ⟨ha, rfl, _⟩
    simp only at ha
    subst ha
    exact wpAny_pure h
theorem NumT.cls {n : Nat} {ws : List Int} {b : Addr} {Q : Bool → Shared → Prop} (x : NumT s.heap ws b) (h : Q false s) : wpAny (model P w) A (ofAClassStatement (n + 1) (.ref b)) Q E s := by
  obtain ⟨o, items, m, ho, hc, hd, hi⟩ := x
  refine asks_cls ho hc hd (fun v hv Q' q => ?_) h
  obtain ⟨i, t, rfl⟩ := ints_each hi v hv
  rw [ofAClass_int]
  exact wpAny_pure q
theorem PairT.cls {n : Nat} {k : PK} {a : Addr} {Q : Bool → Shared → Prop} (x : PairT s.heap k a) (h : Q false s) : wpAny (model P w) A (ofAClassStatement (n + 2) (.ref a)) Q E s := by
  obtain ⟨o, b, t, m, ho, hc, hd, hb⟩ := x
  refine asks_cls ho hc hd (fun v hv Q' q => ?_) h
  have hv : v ∈ [Value.int k.1 t, .ref b] := hv
  rcases List.mem_cons.mp hv with rfl | hv
  · rw [ofAClass_int]
    exact wpAny_pure q
  · rw [List.mem_singleton.mp hv]
    exact hb.cls q
theorem NumT.hby {n : Nat} {ws : List Int} {b : Addr} {Q : Bool → Shared → Prop} (x : NumT s.heap ws b) (h : Q true s) : wpAny (model P w) A (hashByValue (n + 1) (.ref b)) Q E s := by
  obtain ⟨o, items, m, ho, hc, hd, hi⟩ := x
  refine asks_hash ho hc hd (fun v hv Q' q => ?_) h
  obtain ⟨i, t, rfl⟩ := ints_each hi v hv
  rw [hashBy_int]
  exact wpAny_pure q
theorem PairT.hby {n : Nat} {k : PK} {a : Addr} {Q : Bool → Shared → Prop} (x : PairT s.heap k a) (h : Q true s) : wpAny (model P w) A (hashByValue (n + 2) (.ref a)) Q E s := by
  obtain ⟨o, b, t, m, ho, hc, hd, hb⟩ := x
  refine asks_hash ho hc hd (fun v hv Q' q => ?_) h
  have hv : v ∈ [Value.int k.1 t, .ref b] := hv
  rcases List.mem_cons.mp hv with rfl | hv
  · rw [hashBy_int]
    exact wpAny_pure q
  · rw [List.mem_singleton.mp hv]
    exact hb.hby q
/-- a search among pairs shows nothing -/
theorem PairT.seen {k : PK} {a : Addr} {Q : Bool → Shared → Prop} (x : PairT s.heap k a) {ys : List Value} (hy : ∀ y ∈ ys, ∃ k' c, y = Value.ref c ∧ PairT s.heap k' c) (h : Q false s) : wpAny (model P w) A (searchCouldBeSeen (.ref a) ys) Q E s := by
  unfold searchCouldBeSeen
  refine wpAny_bind ?_
  refine wpAny_forIn_list _ (fun left acc s1 => acc.1 = none ∧ s1 = s ∧ ∀ y ∈ left, y ∈ ys) _ ?_ ?_ _ _ ⟨rfl, rfl, fun _ m => m⟩
  · rintro v left acc s1 ⟨ha, rfl, hm⟩
    obtain ⟨k', c, rfl, hc⟩ := hy v (hm v List.mem_cons_self)
    have more : ∀ y ∈ left, y ∈ ys := fun u q => hm u (List.mem_cons_of_mem _ q)
    dsimp only
    by_cases hv : (a == c || (carriedByValue (.ref a) && carriedByValue (.ref c))) = true
    · exact wp_if_pos hv (wpAny_pure ⟨rfl, rfl, more⟩)
    · refine wp_if_neg hv ?_
      refine wpAny_bind ((nestedKind P w).quiet (x.nested (P := P) (w := w)) ?_)
      simp only [Bool.not_true, Bool.false_eq_true, if_false]
      refine wpAny_bind ((nestedKind P w).quiet (hc.nested (P := P) (w := w)) ?_)
      simp only [Bool.not_true, Bool.false_eq_true, if_false]
      refine wpAny_bind (x.cls ?_)
      simp only [Bool.false_eq_true, if_false]
      refine wpAny_bind (hc.cls ?_)
      simp only [Bool.false_eq_true, if_false]
      exact wpAny_pure ⟨rfl, rfl, more⟩
  · rintro ⟨x1, x2⟩ s1 ⟨ha, rfl, _⟩
    simp only at ha
    subst ha
    exact wpAny_pure h
end
end Sr
/-! Sets of at most two pairs. -/
namespace Sr
open PySem PySem.Spec PyProof.Rows L2
abbrev hP (w : World) (k : PK) : Int := (keyP k).hash w
abbrev pth (m : Nat) (h : Int) (c : Nat) : SetTable.Probe := nth m (runAt m (SetTable.bits h % (m + 1)) (SetTable.bits h)) c
structure SetN (P : Program) (w : World) (h : Heap) (a : Addr) (L : List (Addr × PK)) (es : Array (Int × Value)) (ep : Nat) (t : SetTable) : Prop where
  ob : ∃ o, h.get? a = some o ∧ o.ExactSet ∧ o.data = .set es ep t
  rows : es.toList = L.map fun p => (hP w p.2, Value.ref p.1)
  tab : TabOk t (L.map fun p => hP w p.2)
  nd : (L.map (·.2)).Nodup
  tup : ∀ p ∈ L, PairT h p.2 p.1
  plain : t.plain = true
  led : w.params.followText "set-order" = true ∨ t.led = true
  m7 : t.mask = 7
  few : L.length ≤ 2
section
variable {P : Program} {w : World} {A : Around} {E : Value → Shared → Prop} {s : Shared} {a : Addr} {L : List (Addr × PK)} {es : Array (Int × Value)} {ep : Nat} {t : SetTable}
theorem SetN.size (R : SetN P w s.heap a L es ep t) : es.size = L.length := by
  rw [← Array.length_toList, R.rows, List.length_map]
theorem SetN.fits (R : SetN P w s.heap a L es ep t) : t.fits es.size = true := by
  have z1 := R.tab.sz
  rw [List.length_map] at z1
  have z2 := R.size
  have z3 := R.few
  have z4 := R.m7
  unfold SetTable.fits SetTable.fill
  rw [R.tab.dm, Bool.and_eq_true, beq_iff_eq, decide_eq_true_eq]
  constructor
  · omega
  · show t.place.size + 0 ≤ t.mask
    omega
theorem SetN.ent (R : SetN P w s.heap a L es ep t) {i : Nat} {p : Addr × PK} (h : L[i]? = some p) : es[i]? = some (hP w p.2, Value.ref p.1) := by
  rw [← Array.getElem?_toList, R.rows, List.getElem?_map, h, Option.map_some]
theorem pth_dummy (m : Nat) (h : Int) : ∀ c, (pth m h c).dummy = none
  | 0 => rfl
  | c + 1 => by
    show (nth m (runAt m (SetTable.bits h % (m + 1)) (SetTable.bits h)) (c + 1)).dummy = none
    rw [nth_succ]
    have ih := pth_dummy m h c
    unfold adv
    split <;> exact ih
/-- from the c-th step of the way on -/
theorem SetN.seek (R : SetN P w s.heap a L es ep t) {x : Addr} {k : PK} (hx : PairT s.heap k x) (hu : A.units + 8 < cLine) {W : Nat} (hWf : W < 10 * SetTable.turns t.mask) (hW : way t.mask (hP w k) W ∉ t.place.toList) (hWb : ∀ c, c < W → way t.mask (hP w k) c ∈ t.place.toList) {Q : SetFound → Shared → Prop}
    (yes : k ∈ L.map (·.2) → Q (.there none) s) (no : k ∉ L.map (·.2) → Q (.free (way t.mask (hP w k) W) false) s) : ∀ (f c : Nat) (stand : Option SetTable.Probe), stand.getD (t.probeStart (hP w k)) = pth t.mask (hP w k) c → c ≤ W → W - c < f →
      (∀ (i : Nat) p, L[i]? = some p → p.2 = k → ∃ c', c ≤ c' ∧ c' < W ∧ t.place.toList[i]? = some (way t.mask (hP w k) c')) → wpAny (model P w) A (setSearchFrom a (.ref x) (hP w k) true f stand) Q E s := by
  intro f
  induction f with
  | zero => intro c stand _ _ hf; exact absurd hf (Nat.not_lt_zero _)
  | succ f ih =>
    intro c stand hst hc hf hre
    obtain ⟨o, ho, hex, hd⟩ := R.ob
    have gw : ¬ t.gaveWay = true := by
      unfold SetTable.gaveWay
      rw [R.m7]
      decide
    have on : ∀ q, (nth t.mask (pth t.mask (hP w k) c) q) = pth t.mask (hP w k) (c + q) := fun q => (nth_add t.mask c _ q).symm
    have hAt : ∀ (i : Nat) p, L[i]? = some p → (es[i]?.map (·.1)).getD 0 = hP w p.2 := fun i p hp => by rw [R.ent hp, Option.map_some, Option.getD_some]
    have told := go_spec t R.tab.ris R.tab.dm (fun i => (es[i]?.map (·.1)).getD 0) (hP w k) (10 * SetTable.turns t.mask) (W - c) (pth t.mask (hP w k) c) (pth_dummy _ _ _) (by omega)
      (fun q hq => by rw [on]; exact hWb (c + q) (by omega)) (by rw [on, show c + (W - c) = W by omega]; exact hW)
    rw [setSearchFrom_succ]
    refine wpAny_bind (wpAny_setState_of ho hd R.fits ?_)
    dsimp only
    refine wp_if_neg gw ?_
    try refine wpAny_bind (wpAny_pure ?_)
    rcases told with ⟨q, i, hq, hi, hh, hno, hpr⟩ | ⟨hno, hpr⟩
    · rw [on, on] at hpr
      rw [on] at hi
      have asked : t.probe (fun i => (es[i]?.map (·.1)).getD 0) (hP w k) (stand.getD (t.probeStart (hP w k))) = some (.candidate (way t.mask (hP w k) (c + q)) i (pth t.mask (hP w k) (c + (q + 1)))) := by
        rw [hst]
        exact hpr
      rw [asked]
      dsimp only
      have hil : i < L.length := by
        have z1 : i < t.place.toList.length := (List.getElem?_eq_some_iff.mp hi).1
        have z2 := R.tab.sz
        rw [List.length_map] at z2
        rw [Array.length_toList] at z1
        omega
      obtain ⟨p, hp⟩ : ∃ p, L[i]? = some p := ⟨_, List.getElem?_eq_getElem hil⟩
      have pin := List.mem_of_getElem? hp
      have live : t.slot (way t.mask (hP w k) (c + q)) = .live i := slot_live R.tab.ris hi
      have go : wpAny (model P w) A (searchRest a (.ref x) (hP w k) true f es t (way t.mask (hP w k) (c + q)) i (pth t.mask (hP w k) (c + (q + 1)))) Q E s := by
        unfold searchRest
        rw [R.ent hp]
        dsimp only
        refine wpAny_bind (wpAny_holding ((nestedKind P w).eqBool (x := keyP p.2) (y := keyP k) hu (R.tup p pin).nested hx.nested ?_))
        have ek : decide (keyP p.2 = keyP k) = decide (p.2 = k) := decide_eq_decide.mpr ⟨keyP_inj, fun z => by rw [z]⟩
        rw [ek]
        refine wpAny_bind (wpAny_setState_of ho hd R.fits ?_)
        dsimp only
        by_cases same : p.2 = k
        · refine wp_if_pos (by simp [same]) ?_
          exact wpAny_pure (yes (List.mem_map.mpr ⟨p, pin, same⟩))
        · refine wp_if_neg (by simp [same]) ?_
          try refine wpAny_bind (wpAny_pure ?_)
          rw [sameMem]
          dsimp only
          simp only [if_true, live, R.ent hp]
          refine wpAny_bind (wpAny_isSame_ref_self (wpAny_bind (wpAny_pure ?_)))
          simp only [if_true]
          refine wp_if_neg (by simp [same]) ?_
          refine ih (c + (q + 1)) _ rfl (by omega) (by omega) fun j r hj hr => ?_
          obtain ⟨c', b1, b2, b3⟩ := hre j r hj hr
          refine ⟨c', ?_, b2, b3⟩
          rcases Nat.lt_trichotomy c' (c + q) with lt | eq | gt
          · exact absurd ((hAt j r hj).trans (by rw [hr])) (hno (c' - c) j (by omega) (by rw [on, show c + (c' - c) = c' by omega]; exact b3))
          · rw [eq] at b3
            have l2 := slot_live R.tab.ris b3
            rw [live] at l2
            injection l2 with l2
            rw [← l2, hp] at hj
            cases hj
            exact absurd hr same
          · omega
      by_cases led : t.led = true
      · refine wp_if_neg (by simp [led]) ?_
        try refine wpAny_bind (wpAny_pure ?_)
        exact go
      · refine wp_if_pos (by simp [led]) ?_
        refine wpAny_bind (hx.seen (fun y hy => ?_) ?_)
        · obtain ⟨en, hen, rfl⟩ := List.mem_map.mp hy
          have m1 : en ∈ es ∧ en.1 = hP w k := by simpa using hen
          have m2 : en ∈ es.toList := by simpa using m1.1
          rw [R.rows] at m2
          obtain ⟨r, hr, rfl⟩ := List.mem_map.mp m2
          exact ⟨r.2, r.1, rfl, R.tup r hr⟩
        · refine wp_if_neg (by decide) ?_
          try refine wpAny_bind (wpAny_pure ?_)
          exact go
    · rw [on, show c + (W - c) = W by omega] at hpr
      have asked : t.probe (fun i => (es[i]?.map (·.1)).getD 0) (hP w k) (stand.getD (t.probeStart (hP w k))) = some (.empty (way t.mask (hP w k) W) none) := by
        rw [hst]
        exact hpr
      rw [asked]
      dsimp only
      refine wpAny_pure (no fun hm => ?_)
      obtain ⟨r, hr, hk⟩ := List.mem_map.mp hm
      obtain ⟨j, hj⟩ := List.mem_iff_getElem?.mp hr
      obtain ⟨c', b1, b2, b3⟩ := hre j r hj hk
      exact hno (c' - c) j (by omega) (by rw [on, show c + (c' - c) = c' by omega]; exact b3) ((hAt j r hj).trans (by rw [hk]))
end
end Sr
/-! A pair put into a set. -/
namespace Sr
open PySem PySem.Spec PyProof.Rows L2
section
variable {P : Program} {w : World} {A : Around} {E : Value → Shared → Prop} {s : Shared} {a : Addr} {L : List (Addr × PK)} {es : Array (Int × Value)} {ep : Nat} {t : SetTable}
theorem SetN.search (R : SetN P w s.heap a L es ep t) {x : Addr} {k : PK} (hx : PairT s.heap k x) (hu : A.units + 8 < cLine) {Q : SetFound → Shared → Prop} (yes : k ∈ L.map (·.2) → Q (.there none) s)
    (no : ∀ W, k ∉ L.map (·.2) → way t.mask (hP w k) W ∉ t.place.toList → (∀ c, c < W → way t.mask (hP w k) c ∈ t.place.toList) → Q (.free (way t.mask (hP w k) W) false) s) : wpAny (model P w) A (setSearch a (.ref x) (hP w k) true) Q E s := by
  have z3 := R.few
  have z4 := R.m7
  obtain ⟨W, hWf, hW, hWb⟩ := R.tab.first (by rw [List.length_map]; omega) (hP w k)
  have hbig : W < 100000 := by
    have : 10 * SetTable.turns t.mask ≤ 1420 := by
      unfold SetTable.turns
      omega
    omega
  unfold setSearch
  refine R.seek hx hu hWf hW hWb yes (fun hn => no W hn hW hWb) 100000 0 none rfl (Nat.zero_le _) (by omega) fun i p hp hk => ?_
  have hi : (L.map fun p => hP w p.2)[i]? = some (hP w k) := by rw [List.getElem?_map, hp, Option.map_some, hk]
  have hil : i < t.place.toList.length := by
    have z1 : i < L.length := (List.getElem?_eq_some_iff.mp hp).1
    have z2 := R.tab.sz
    rw [List.length_map] at z2
    rw [Array.length_toList]
    omega
  have hj := List.getElem?_eq_getElem hil
  obtain ⟨c, hc, e⟩ := R.tab.before hW hi hj
  exact ⟨c, Nat.zero_le _, hc, by rw [hj, e]⟩
theorem PairT.far {h h' : Heap} {k : PK} {b a : Addr} {o : Obj} {es : Array (Int × Value)} {ep : Nat} {t : SetTable} (x : PairT h k b) (ho : h.get? a = some o) (hd : o.data = .set es ep t) (hs : Heap.SameBut a h h') : PairT h' k b := by
  obtain ⟨o1, c, tk, n, h1, h2, h3, o2, it, n2, g1, g2, g3, g4⟩ := x
  have ne : ∀ {b : Addr} {o' : Obj} {vs : Array Value} {n : Nat}, h.get? b = some o' → o'.data = .seq vs n → b ≠ a := fun {b o' vs n} e1 e2 z => by
    rw [z, ho] at e1
    cases e1
    rw [hd] at e2
    cases e2
  exact ⟨o1, c, tk, n, (hs.2 b (ne h1 h3)).trans h1, h2, h3, o2, it, n2, (hs.2 c (ne g1 g3)).trans g1, g2, g3, g4⟩
/-- one more -/
theorem SetN.put (R : SetN P w s.heap a L es ep t) (h1 : L.length ≤ 1) {x : Addr} {k : PK} (hx : PairT s.heap k x) (hu : A.units + 8 < cLine) {Q : Bool → Shared → Prop}
    (hQ : ∀ b h' L' es' ep' t', Heap.SameBut a s.heap h' → SetN P w h' a L' es' ep' t' → (k ∈ L.map (·.2) → L' = L) → (k ∉ L.map (·.2) → L'.Perm ((x, k) :: L)) → Q b { s with heap := h' }) : wpAny (model P w) A (setAddHashed a (.ref x) (hP w k)) Q E s := by
  obtain ⟨o, ho, hex, hd⟩ := R.ob
  have hsz := R.size
  have hm7 := R.m7
  unfold setAddHashed
  refine wpAny_holding ?_
  rw [show (100000 : Nat) = 99999 + 1 from rfl, setAddHashedIn_succ]
  refine wpAny_bind (wpAny_setState_of ho hd R.fits ?_)
  dsimp only
  refine wp_if_neg (by simp [byScan, Value.scannable]) ?_
  try refine wpAny_bind (wpAny_pure ?_)
  refine wpAny_bind (R.search hx hu (fun hm => ?_) fun W hm hW hb => ?_)
  · dsimp only
    exact wpAny_pure (hQ false s.heap L es ep t (Heap.SameBut.refl a s.heap) R (fun _ => rfl) fun z => absurd hm z)
  · dsimp only
    refine wpAny_bind (wpAny_setState_of ho hd R.fits ?_)
    dsimp only
    obtain ⟨p1, p2, p3, p4, p5, p6, p7, p8, p9⟩ := R.tab.put hW hb
    have pl : (t.put (way t.mask (hP w k) W)).1.plain = true := by rw [p6]; exact R.plain
    generalize t.put (way t.mask (hP w k) W) = pt at p1 p3 p4 p5 p6 p7 p8 p9 pl ⊢
    obtain ⟨t1, pp⟩ := pt
    dsimp only at p1 p3 p4 p5 p6 p7 p8 p9 pl ⊢
    subst p1
    first
      | (refine wpAny_bind ?_; refine wp_if_pos pl ?_; refine hx.hby ?_)
      | refine wp_if_pos pl (wpAny_bind (hx.hby ?_))
    simp only [if_true]
    generalize SetTable.below t.place (way t.mask (hP w k) W) = p at p2 p3 ⊢
    have rows1 : (SetTable.insertAt es p (hP w k, Value.ref x)).toList = (L.take p ++ (x, k) :: L.drop p).map fun p => (hP w p.2, Value.ref p.1) := by
      rw [SetTable.toList_insertAt, R.rows, List.map_append, List.map_cons, List.map_take, List.map_drop]
    have pm := put_perm L p (x, k)
    have len1 : (L.take p ++ (x, k) :: L.drop p).length = L.length + 1 := pm.length_eq
    have hs1 : (L.take p ++ (x, k) :: L.drop p).map (fun p => hP w p.2) = (L.map fun p => hP w p.2).take p ++ hP w k :: (L.map fun p => hP w p.2).drop p := by
      rw [List.map_append, List.map_cons, List.map_take, List.map_drop]
    rw [← hs1] at p3
    have nd1 : ((L.take p ++ (x, k) :: L.drop p).map (·.2)).Nodup := (pm.map (·.2)).nodup_iff.mpr (List.nodup_cons.mpr ⟨hm, R.nd⟩)
    have es1 : (SetTable.insertAt es p (hP w k, Value.ref x)).size = L.length + 1 := by rw [← Array.length_toList, rows1, List.length_map, len1]
    generalize SetTable.insertAt es p (hP w k, Value.ref x) = e1 at rows1 es1 ⊢
    generalize L.take p ++ (x, k) :: L.drop p = L1 at pm len1 p3 nd1 rows1
    refine wpAny_bind (wpAny_storeSet_of ho hd ?_ (by rw [es1, sizeLine_eq]; omega))
    have sb : Heap.SameBut a s.heap (s.heap.update a (Obj.putSet e1 t1)) := Heap.SameBut.update ..
    have ho1 := L2.store_at (es' := e1) (t' := t1) ho hd
    generalize s.heap.update a (Obj.putSet e1 t1) = g1 at sb ho1 ⊢
    have tooF : t1.tooFull = false := by
      unfold SetTable.tooFull
      rw [p9, p4, hm7, List.length_map]
      exact decide_eq_false (by omega)
    first
      | refine wp_if_neg (by simp [tooF]) ?_
      | (refine wpAny_bind ?_; refine wp_if_neg (by simp [tooF]) ?_; refine wpAny_pure ?_)
    refine wpAny_pure (hQ true g1 L1 e1 (ep + 1) t1 sb ⟨⟨_, ho1, ⟨hex.1, hex.2.1, hex.2.2⟩, rfl⟩, rows1, p3, nd1, fun r hr => ?_, pl, by rw [p5]; exact R.led, by rw [p4]; exact hm7, by rw [len1]; omega⟩ (fun z => absurd z hm) fun _ => pm)
    rcases List.mem_cons.mp (pm.mem_iff.mp hr) with rfl | hr
    · exact hx.far ho hd sb
    · exact (R.tup r hr).far ho hd sb
theorem setN_new {h : Heap} {a : Addr} (ho : h.get? a = some { cls := .type "set", dict := none, data := .set #[] 0 (.fresh 0 0 (!w.params.followText "set-order")) }) : SetN P w h a [] #[] 0 (.fresh 0 0 (!w.params.followText "set-order")) where
  ob := ⟨_, ho, ⟨rfl, rfl, rfl⟩, rfl⟩
  rows := rfl
  tab := ⟨List.Pairwise.nil, rfl, rfl, .inl rfl, (fun x m => nomatch (show x ∈ ([] : List Nat) from m)), (fun i h j e => nomatch (show (none : Option Int) = some h from e))⟩
  nd := List.nodup_nil
  tup := fun p m => nomatch m
  plain := rfl
  led := by
    show _ ∨ (!w.params.followText "set-order") = true
    cases w.params.followText "set-order"
    · exact .inr rfl
    · exact .inl rfl
  m7 := rfl
  few := Nat.zero_le _
end
end Sr
/-! The members of a set of pairs as a sorted list. -/
namespace Sr
open PySem PySem.Spec PyProof.Rows L2
def pairD (k : PK) : PyData := .tuple [.int k.1, .tuple (k.2.map PyData.int)]
theorem ints_read {h : Heap} : ∀ {vs : List Value} {ws : List Int}, IntsAre vs ws → ReadsAll h vs (ws.map PyData.int) []
  | _, _, .nil => .nil
  | _, _, .cons i t r => .cons (as := []) (.int i t) (ints_read r)
theorem PairT.reads {h : Heap} {k : PK} {a : Addr} (x : PairT h k a) : Reads h (.ref a) (pairD k) [] := by
  obtain ⟨o, b, t, n, ho, hc, hd, o2, it, n2, g1, g2, g3, g4⟩ := x
  exact .tuple ho hc hd (.cons (as := []) (bs := []) (.int _ t) (.cons (as := []) (bs := []) (.tuple g1 g2 g3 (ints_read g4)) .nil))
theorem PairT.up {h h' : Heap} {k : PK} {a : Addr} (x : PairT h k a) (kp : ∀ b o, h.get? b = some o → o.cls = .type "tuple" → h'.get? b = some o) : PairT h' k a := by
  obtain ⟨o, b, t, n, ho, hc, hd, o2, it, n2, g1, g2, g3, g4⟩ := x
  exact ⟨o, b, t, n, kp _ _ ho hc, hc, hd, o2, it, n2, kp _ _ g1 g2, g2, g3, g4⟩
theorem alike_ints : ∀ xs ys : List Int, PySem.W.alikeAll (xs.map PyData.int) (ys.map PyData.int) = true
  | [], _ => by rw [List.map_nil, PySem.W.alikeAll]
  | _ :: _, [] => by rw [List.map_cons, List.map_nil, PySem.W.alikeAll]
  | x :: xs, y :: ys => by rw [List.map_cons, List.map_cons, PySem.W.alikeAll, PySem.W.alike, alike_ints xs ys]; rfl
theorem alike_pairs (a b : PK) : PySem.W.alike (pairD a) (pairD b) = true := by
  unfold pairD
  rw [PySem.W.alike, PySem.W.alikeAll, PySem.W.alike, PySem.W.alikeAll, PySem.W.alike, alike_ints, PySem.W.alikeAll]
  rfl
theorem pair_depth (k : PK) : (pairD k).depth ≤ 2 := by
  have h : PyData.depthAll (k.2.map PyData.int) ≤ 0 := (ShpL.of (n := 0) (Shp.ints k.2)).2
  unfold pairD
  rw [PyData.depth, PyData.depthAll, PyData.depth, PyData.depthAll, PyData.depth, PyData.depthAll]
  omega
end Sr
/-! sorted of a set of pairs. -/
namespace Sr
open PySem PySem.Spec PyProof.Rows L2
theorem sortVals_perm {κ : PyProof.Rows.KeyKind} {vs : List Value} : (PySem.W.sortVals κ false vs vs).Perm vs := by
  unfold PySem.W.sortVals
  refine ((List.mergeSort_perm _ _).map Prod.snd).trans ?_
  rw [List.map_snd_zip (Nat.le_refl _)]
section
variable {P : Program} {w : World} {A : Around} {E : Value → Shared → Prop} {s : Shared} {a : Addr} {L : List (Addr × PK)} {es : Array (Int × Value)} {ep : Nat} {t : SetTable}
theorem each_of {vs : List Value} {h : Heap} : (∀ v ∈ vs, ∃ k a, v = Value.ref a ∧ PairT h k a) → ∃ ks : List PK, PySem.W.EachIs (fun v d => ∃ as, Reads h v d as) vs (ks.map pairD) := by
  induction vs with
  | nil => intro _; exact ⟨[], .nil⟩
  | cons v vs ih =>
    intro hv
    obtain ⟨k, b, rfl, hk⟩ := hv v List.mem_cons_self
    obtain ⟨ks, hks⟩ := ih fun u m => hv u (List.mem_cons_of_mem _ m)
    exact ⟨k :: ks, .cons ⟨[], hk.reads⟩ hks⟩
theorem SetN.sorted {Q : Value → Shared → Prop} (R : SetN P w s.heap a L es ep t) (hh : A.handled = none) (hu : A.units + 64 < cLine)
    (hQ : ∀ s' p (out : Array Value) (c : Nat), (∀ b o, s.heap.get? b = some o → s'.heap.get? b = some o) → s'.gens = s.gens → s'.os = s.os → s.heap.objs.size ≤ p → s'.heap.get? p = some (seqObj "list" out c) → out.toList.Perm (L.map fun q => Value.ref q.1) → Q (.ref p) s') :
    wpAny (model P w) A (call (.builtin "sorted") [.ref a]) Q E s := by
  obtain ⟨o, ho, hex, hd⟩ := R.ob
  have hsz := R.size
  have hfew := R.few
  refine Calls.call_function_entry kind_sorted plain_sorted entry_sorted (args_sorted1 _) ?_
  unfold Builtin.«sorted»
  refine wpAny_bind (m := checkCount "sorted" 1 1 _) (wpAny_pure ?_)
  refine wpAny_bind (collect_set (A := A.in1) hh ⟨o, ho, hex.1, hd⟩ R.fits (by unfold scanBound; omega) R.tab.ris R.led fun s1 vs k1 hz g1 o1 pm => ?_)
  have ers : es.toList.map (·.2) = L.map fun q => Value.ref q.1 := by rw [R.rows, List.map_map]; rfl
  rw [ers] at pm
  have hvl : vs.length ≤ 2 := by rw [pm.length_eq, List.length_map]; exact hfew
  refine wpAny_bind (wpAny_newList ?_ (by rw [sizeLine_eq]; omega))
  have hoL : (s1.heap.push (seqObj "list" vs.toArray 0)).get? s1.heap.objs.size = some (seqObj "list" vs.toArray 0) := Heap.get?_push_size _ rfl
  have old : ∀ b u, s.heap.get? b = some u → u.cls = .type "tuple" → (PySem.W.sortingHeap (s1.heap.push (seqObj "list" vs.toArray 0)) s1.heap.objs.size vs).get? b = some u := fun b u e _ => by
    have e1 := k1 b u e
    exact PySem.W.sortingHeap_old (Nat.ne_of_lt (Heap.lt_size e1)) (Heap.get?_push_of_some _ e1)
  obtain ⟨ks, hks⟩ := each_of (vs := vs) (h := PySem.W.sortingHeap (s1.heap.push (seqObj "list" vs.toArray 0)) s1.heap.objs.size vs) fun v hv => by
    obtain ⟨q, hq, rfl⟩ := List.mem_map.mp (pm.mem_iff.mp hv)
    exact ⟨q.2, q.1, rfl, (R.tup q hq).up old⟩
  have S := PySem.W.SortsAt.data (prog := P) (w := w) (A := A.in1.in1) (s := { s1 with heap := PySem.W.sortingHeap (s1.heap.push (seqObj "list" vs.toArray 0)) s1.heap.objs.size vs }) hks
    (fun d hd d' hd' => by
      obtain ⟨k, _, rfl⟩ := List.mem_map.mp hd
      obtain ⟨k', _, rfl⟩ := List.mem_map.mp hd'
      exact alike_pairs k k') (.inl fun d hd => by
      obtain ⟨k, _, rfl⟩ := List.mem_map.mp hd
      exact ⟨_, _, rfl⟩) fun d hd => by
      obtain ⟨k, _, rfl⟩ := List.mem_map.mp hd
      have := pair_depth k
      simp only [Around.in1_units]
      omega
  refine wpAny_bind (wpAny_holding (wpAny_call_entry slot_list_sort ⟨_, hoL, rfl⟩ entry_list_sort (PySem.W.list_sort_vals (s := { s1 with heap := s1.heap.push (seqObj "list" vs.toArray 0) }) hoL S (by rw [sizeLine_eq]; omega) ⟨_, rfl, ?_⟩) (args_list_sort _)))
  obtain ⟨c, hc⟩ := sortedHeap_at (vs := vs) (out := (PySem.W.sortVals (PySem.W.dataKind (PySem.W.sortingHeap (s1.heap.push (seqObj "list" vs.toArray 0)) s1.heap.objs.size vs) (ks.map pairD)) false vs vs).toArray) hoL
  refine wpAny_pure ⟨_, rfl, hQ _ s1.heap.objs.size _ c (fun b u e => ?_) g1 o1 hz hc ?_⟩
  · have e1 := k1 b u e
    have lt := Heap.lt_size e1
    refine (sortedHeap_old (Nat.ne_of_lt lt) (by rw [size_push']; exact Nat.lt_succ_of_lt lt)).trans ?_
    exact Heap.get?_push_of_some _ e1
  · rw [List.toList_toArray]
    exact sortVals_perm.trans pm
end
end Sr
/-! A set of pairs as a tracked thing. -/
namespace Sr
open PySem PySem.Spec PyProof.Rows L2
/-- without the pairs themselves -/
structure SetN0 (P : Program) (w : World) (h : Heap) (a : Addr) (L : List (Addr × PK)) : Prop where
  ex : ∃ (es : Array (Int × Value)) (ep : Nat) (t : SetTable), (∃ o, h.get? a = some o ∧ o.ExactSet ∧ o.data = .set es ep t) ∧ es.toList = L.map (fun p => (hP w p.2, Value.ref p.1)) ∧ TabOk t (L.map fun p => hP w p.2) ∧ (L.map (·.2)).Nodup ∧ t.plain = true ∧ (w.params.followText "set-order" = true ∨ t.led = true) ∧ t.mask = 7 ∧ L.length ≤ 2
def SetNO (P : Program) (w : World) (a : Addr) (L : List (Addr × PK)) : HO := .ext fun h => SetN0 P w h a L
section
variable {P : Program} {w : World} {h h' : Heap} {a : Addr} {L : List (Addr × PK)} {es : Array (Int × Value)} {ep : Nat} {t : SetTable}
theorem SetN.bare (R : SetN P w h a L es ep t) : SetN0 P w h a L := ⟨es, ep, t, R.ob, R.rows, R.tab, R.nd, R.plain, R.led, R.m7, R.few⟩
theorem SetN0.full (R : SetN0 P w h a L) (ht : ∀ p ∈ L, PairT h p.2 p.1) : ∃ es ep t, SetN P w h a L es ep t := by
  obtain ⟨es, ep, t, h1, h2, h3, h4, h5, h6, h7, h8⟩ := R.ex
  exact ⟨es, ep, t, h1, h2, h3, h4, ht, h5, h6, h7, h8⟩
theorem setNO_new {H : Hp} (R : SetN0 P w h a L) : ObjOk P w H h a (SetNO P w a L) := by
  obtain ⟨es, ep, t, ⟨o, ho, r⟩, rest⟩ := R.ex
  refine ⟨R, ⟨o, ho⟩, fun h1 h2 p k => ?_⟩
  obtain ⟨es, ep, t, ⟨o, ho, r⟩, rest⟩ := p.ex
  exact ⟨es, ep, t, ⟨o, k o ho, r⟩, rest⟩
end
end Sr
/-! set.add of a pair. -/
namespace Sr
open PySem PySem.Spec PyProof.Rows L2
/-- a tracked pair -/
def PairH (H : Hp) (k : PK) (a : Addr) : Prop := ∃ b, H a = some (.tup [.int k.1, .ref b]) ∧ H b = some (.tup (k.2.map V.int))
theorem vals_ints : ∀ {ws : List Int} {us : List Value}, Vals (ws.map V.int) us → IntsAre us ws
  | [], _, r => by cases r; exact .nil
  | w :: ws, _, r => by
    cases r with
    | cons h t =>
      obtain ⟨tk, rfl⟩ := h
      exact .cons w tk (vals_ints t)
section
variable {X : Cx} {pins : List (Addr × Obj)} {σ : L2.St} {H : Hp} {s : Shared}
theorem PairH.at {k : PK} {a : Addr} (x : PairH H k a) (I : Inv X pins σ H s) : PairT s.heap k a := by
  obtain ⟨b, e1, e2⟩ := x
  obtain ⟨_, its, r, o, h1, h2, n, h3⟩ := (show ObjOk X.prog X.w H s.heap a (.tup [.int k.1, .ref b]) from I.hok a _ e1)
  obtain ⟨_, it2, r2, o2, g1, g2, n2, g3⟩ := (show ObjOk X.prog X.w H s.heap b (.tup (k.2.map V.int)) from I.hok b _ e2)
  cases r with | cons ra rb => cases rb with | cons rb rc =>
  cases rc
  obtain ⟨tk, rfl⟩ := ra
  cases rb
  exact ⟨o, b, tk, n, h1, h2, h3, o2, it2.toArray, n2, g1, g2, g3, by simpa using vals_ints r2⟩
theorem addN {E : Value → Shared → Prop} {D x : Addr} {L : List (Addr × PK)} {k : PK} {Q : Value → Shared → Prop} (I : Inv X pins σ H s) (hu : X.A.units + 64 < cLine) (hD : H D = some (SetNO X.prog X.w D L)) (hall : ∀ p ∈ L, PairH H p.2 p.1) (hx : PairH H k x) (h1 : L.length ≤ 1)
    (h : ∀ L' s', (k ∈ L.map (·.2) → L' = L) → (k ∉ L.map (·.2) → L'.Perm ((x, k) :: L)) → Inv X pins σ (upd H D (SetNO X.prog X.w D L')) s' → Q .none s') : wpAny (model X.prog X.w) X.A (call (.builtin "set.add") [.ref D, .ref x]) Q E s := by
  have R0 : SetN0 X.prog X.w s.heap D L := (I.hok D _ hD).1
  obtain ⟨es, ep, t, R⟩ := R0.full fun p m => (hall p m).at I
  obtain ⟨o, ho, hex, hd⟩ := R.ob
  refine wpAny_call_entry F.slot_set_add ⟨o, ho, hex.1⟩ F.entry_set_add ?_ (F.args_set_add_2 _ _)
  unfold Builtin.«set.add» Builtin.Frozenset.oneOther
  simp only [List.isEmpty_nil, bind_assoc]
  unfold Builtin.Frozenset.addrOf setAdd
  refine wpAny_bind (wpAny_pure ?_)
  try dsimp only
  refine wpAny_bind (wpAny_pure ?_)
  try dsimp only
  refine wpAny_bind ?_
  refine wpAny_holding ?_
  have hp := hx.at I
  refine wpAny_bind ((nestedKind X.prog X.w).pyHash (k := keyP k) (show X.A.in1.units + 8 < cLine by simp only [Around.in1_units]; omega) hp.nested ?_)
  refine SetN.put (s := { s with toks := s.toks + (keyP k).draws }) R h1 hp (by simp only [Around.in1_units]; omega) fun b h' L' es' ep' t' sb R' e1 e2 => ?_
  show wpAny _ _ (ret Value.none) _ _ _
  refine wpAny_pure ⟨_, rfl, h L' _ e1 e2 (I.write (e := D) (t' := s.toks + (keyP k).draws) (by rw [hD]; trivial) (.inl rfl) (fun b u hb hu => (sb.2 b hb).trans hu) ?_ (setNO_new R'.bare))⟩
  obtain ⟨o', ho', _⟩ := R'.ob
  exact ⟨o', ho'⟩
end
end Sr
/-! {elt for target in iter}, elt a pair, at most two of them. -/
namespace Sr
open PySem PySem.Spec PyProof.Rows L2 PpSet
def tScN (P : Program) (w : World) (wi : TI) (g : TG) (te : TE) (vs : List Nat) : TE := fun σ H Q => wi σ H fun J H1 => ∀ D, H1 D = none → ∃ W : Nat → Nat → Hp → Prop, (∃ m, W 0 m (upd H1 D (SetNO P w D []))) ∧ ∀ i m H, W i m H →
  (J.stop i H ∧ Q (.ref D) H) ∨ (J.go i H ∧ ∃ Nx : Hp → Prop, (∀ H', Nx H' → ∃ m', m' < m ∧ W (i + 1) m' H') ∧ ∀ x H', J.yld i H x H' → g x (wipe σ vs) H' fun σ2 H2 => wipe σ2 vs = wipe σ vs ∧ te σ2 H2 fun y H4 =>
    ∃ (k : PK) (b : Addr) (L : List (Addr × PK)), y = .ref b ∧ H4 D = some (SetNO P w D L) ∧ PairH H4 k b ∧ (∀ p ∈ L, PairH H4 p.2 p.1) ∧ L.length ≤ 1 ∧ ∀ L', (k ∈ L.map (·.2) → L' = L) → (k ∉ L.map (·.2) → L'.Perm ((b, k) :: L)) → Nx (upd H4 D (SetNO P w D L')))
end Sr
/-! The rule of the set comprehension. -/
namespace Sr
open PySem PySem.Spec PyProof.Rows L2 PpSet
section
variable {X : Cx}
theorem pe_scN {elt tg iter : Expr} {scope : Scope} {own : List (PySem.Str × Nat)} {pos : Pos} {wi : TI} {g : TG} {te : TE} (hu : X.A.units + 64 < cLine) (hc : X.calm = true) (hN : X.N.Nodup) (hi : PI X tg iter wi) (ok : BlkOk X.N X.env.scope scope own)
    (hg : ∀ (s : Shared) (H : Hp) (C : Addr) (cl : List (PySem.Str × Addr)) (fp : List Addr), PG (X.blk s H scope (compEnvC scope cl C X.env) fp) tg g)
    (he : ∀ (s : Shared) (H : Hp) (C : Addr) (cl : List (PySem.Str × Addr)) (fp : List Addr), PE (X.blk s H scope (compEnvC scope cl C X.env) fp) elt te) (hs : ∀ x, foldedSetIterable iter X.env x = pure x := by intro _; rfl) :
    PE X (.SetComp elt [⟨tg, iter, [], 0⟩] scope pos) (tScN X.prog X.w wi g te (own.map (·.2))) := by
  refine ⟨fun pins s σ H Q I h => ?_⟩
  rw [eval_SetComp]
  have inner : ∀ y ∈ scope.names, y.2 = .free → ∃ c, X.env.cells.lookup y.1 = some c := fun y hy e => (ok.free y hy e).elim (fun k => I.ok.has _ (.inl k)) fun k => I.ok.has _ (.inr k)
  refine wpAny_comprehension_free (use := none) rfl hs (closure_ok inner) ok.kind (fun y hy e => by rw [ok.uniq y hy, e])
    (thn (hi.run pins s σ H _ I h) fun xv s1 hx => thn hx fun itv s2 h2 => ?_)
  obtain ⟨it, fp, tn, J, H2, rfl, I2, T, st2, f2, q⟩ := h2
  refine newSet_ok (newEnv_comp ?_)
  generalize hD : s2.heap.objs.size = D
  have nD : H2 D = none := I2.hok.fresh (Nat.le_of_eq hD)
  obtain ⟨W, ⟨m0, w0⟩, turn⟩ := q D nD
  generalize hs3 : ({ s2 with heap := s2.heap.push { cls := .type "set", dict := none, data := .set #[] 0 (.fresh 0 0 (!X.w.params.followText "set-order")) } } : Shared) = s3
  have h3 : s3.heap = s2.heap.push { cls := .type "set", dict := none, data := .set #[] 0 (.fresh 0 0 (!X.w.params.followText "set-order")) } := by rw [← hs3]
  have I3 : Inv X pins σ (upd H2 D (SetNO X.prog X.w D [])) s3 := by
    rw [← hs3]
    refine I2.laid (t' := s2.toks) (fun b o e => Heap.get?_push_of_some _ e) (Nat.le_of_eq hD) ?_
    rw [← hD]
    exact setNO_new (setN_new (P := X.prog) (w := X.w) (Heap.get?_push_size _ rfl)).bare
  have below : ∀ b ∈ fp, b < s2.heap.objs.size := fun b hb => by
    obtain ⟨o, e, _⟩ := T.obj _ _ st2 b hb
    exact Heap.lt_size e
  have f3 : ∀ b ∈ fp, FpOk X pins (upd H2 D (SetNO X.prog X.w D [])) b ∧ b < s3.heap.objs.size := fun b hb => by
    have lt := below b hb
    refine ⟨⟨?_, (f2 b hb).2⟩, by rw [h3, Heap.size_push]; exact Nat.lt_succ_of_lt lt⟩
    rw [upd_ne (by rw [← hD]; exact Nat.ne_of_lt lt)]
    exact (f2 b hb).1
  have st3 : tn 0 s3.heap := T.keep _ _ _ st2 fun b _ o e => by rw [h3]; exact Heap.get?_push_of_some _ e
  have I4 := block_start I3 ok hN f3
  have pg := hg s3 (upd H2 D (SetNO X.prog X.w D [])) s3.heap.objs.size (cellsFrom (s3.heap.objs.size + 1) scope.names (cloFrom X.env.cells scope.names [])) fp
  have pe := he s3 (upd H2 D (SetNO X.prog X.w D [])) s3.heap.objs.size (cellsFrom (s3.heap.objs.size + 1) scope.names (cloFrom X.env.cells scope.names [])) fp
  show codeAny _ _ (.compStart (.SetComp elt [⟨tg, iter, [], 0⟩] scope pos) 0 (.ref it) (.ref D) (compEnvC scope (cellsFrom (s3.heap.objs.size + 1) scope.names (cloFrom X.env.cells scope.names [])) s3.heap.objs.size X.env)) (compPost (model X.prog X.w) X.A X.xe none _ (.ref D) s3.heap.objs.size) { s3 with heap := pushCells (s3.heap.push { cls := .type "dict", data := .dict #[] }) scope.names }
  have nfp : ∀ b ∈ fp, (upd H2 D (SetNO X.prog X.w D [])) b = none := fun b hb => (f3 b hb).1.1
  generalize hce : compEnvC scope (cellsFrom (s3.heap.objs.size + 1) scope.names (cloFrom X.env.cells scope.names [])) s3.heap.objs.size X.env = ce at I4 pg pe ⊢
  have cL : ce.locals = s3.heap.objs.size := by subst hce; rfl
  generalize hH3 : upd H2 D (SetNO X.prog X.w D []) = H3 at I3 I4 pg pe w0 nfp f3
  generalize hs4 : ({ s3 with heap := pushCells (s3.heap.push { cls := .type "dict", data := .dict #[] }) scope.names } : Shared) = s4 at I4 ⊢
  have st4 : tn 0 s4.heap := T.keep _ _ _ st3 fun b _ o e => by rw [← hs4]; exact pushCells_keeps _ _ _ _ (Heap.get?_push_of_some _ e)
  have stat : ∀ {σ' : L2.St} {H' : Hp} {s' : Shared}, Inv (X.blk s3 H3 scope ce fp) [] σ' H' s' → (∀ b ∈ fp, H' b = none) → ∀ b ∈ fp, FpOk (X.blk s3 H3 scope ce fp) [] H' b := fun {σ' H' s'} J' hn b hb =>
    ⟨hn b hb, (J'.ok.exf b hb).1, J'.ok.exfs b hb, .inl hb, fun x c e => (J'.ok.exf b hb).2 x c e, fun p hp => nomatch (show p ∈ ([] : List (Addr × Obj)) from hp)⟩
  have loop : codeAny (model X.prog X.w) X.A (.compLoop (.SetComp elt [⟨tg, iter, [], 0⟩] scope pos) 0 (.ref it) (.ref D) ce) (compPost (model X.prog X.w) X.A X.xe none (EP X pins σ Q) (.ref D) s3.heap.objs.size) s4 := by
    refine PpSet.compLoopS_any (fun n s' => ∃ i H', Inv (X.blk s3 H3 scope ce fp) [] (wipe σ (own.map (·.2))) H' s' ∧ tn i s'.heap ∧ (∀ b ∈ fp, H' b = none) ∧ W i n H') ?_ m0 ⟨0, H3, I4, st4, nfp, w0⟩
    rintro n s5 ⟨i, H5, I5, st5, n5, w5⟩
    rcases turn i n H5 w5 with ⟨stop, qq⟩ | ⟨go, Nx, hNx, step⟩
    · have td := T.done (X.blk s3 H3 scope ce fp) rfl rfl rfl hc i [] s5 _ H5 (fun _ _ => False) I5 (stat I5 n5) st5 stop
      refine thnF td fun r s6 ⟨hr, I6⟩ => ?_
      subst hr
      have I7 : Inv X pins σ H5 s6 := I3.call' (ch := fp) I6.os I6.base I6.hok I6.bare fun b hb => ⟨(f3 b hb).1.2.2.2.1, (f3 b hb).1.2.1, (f3 b hb).1.2.2.2.2.1, (f3 b hb).1.2.2.2.2.2⟩
      have nC : H5 s3.heap.objs.size = none := by
        have z : H5 ce.locals = none := I6.free
        rwa [cL] at z
      obtain ⟨m, hn, _⟩ := I6.loc
      have hn : s6.heap.Ns ce.locals m := hn
      rw [cL] at hn
      refine ⟨m, hn, fun h'' sb => ?_⟩
      obtain ⟨z0, z1, z2, z3, z4, z5⟩ := I3.fpOk (Nat.le_refl _) nC
      exact ⟨.ref D, H5, I7.turned (t' := s6.toks) (fun b o hb e => (sb.2 b hb).trans e) z0 z1 z3 z4 z5, rfl, qq⟩
    · have ti := T.item (X.blk s3 H3 scope ce fp) rfl rfl rfl hc i [] s5 _ H5 (fun _ _ => False) I5 (stat I5 n5) st5 go
      refine thnF ti fun r s6 ⟨u, hr, h6⟩ => ?_
      subst hr
      refine thnF h6 fun _ s7 ⟨x, H7, I7, r7, y7, st7, n7⟩ => ?_
      have I7' := I7.pinned (stat I7 n7) (T.obj _ _ st7)
      refine thnF (pg.run _ s7 _ H7 x u _ I7' r7 (step x H7 y7)) fun _ s8 ⟨σ8, H8, I8, hw8, q8⟩ => ?_
      have fin : ∀ {s' : Shared} {H' : Hp}, Inv (X.blk s3 H3 scope ce fp) ([] ++ pinsAt fp s7.heap) σ8 H' s' → Nx H' → ∃ m, m < n ∧ ∃ i H', Inv (X.blk s3 H3 scope ce fp) [] (wipe σ (own.map (·.2))) H' s' ∧ tn i s'.heap ∧ (∀ b ∈ fp, H' b = none) ∧ W i m H' := fun {s' H'} J' nx => by
        obtain ⟨m', hm, w'⟩ := hNx H' nx
        have held : ∀ b ∈ fp, ∀ o, s7.heap.get? b = some o → s'.heap.get? b = some o ∧ H' b = none := fun b hb o e =>
          let z := J'.pin (b, o) (List.mem_append_right _ (List.mem_append_right _ (mem_pinsAt hb e)))
          ⟨z.1, z.2.1⟩
        have hl : (wipe σ (own.map (·.2))).length = σ8.length := by rw [← hw8, wipe_length]
        refine ⟨m', hm, i + 1, H', (J'.unpinned (pins := [])).weak hl (fun j v e => ?_), T.keep _ _ _ st7 fun b hb o e => (held b hb o e).1, fun b hb => ?_, w'⟩
        · rw [← hw8] at e
          exact (wipe_some e).1
        · obtain ⟨o, e, _⟩ := T.obj _ _ st7 b hb
          exact (held b hb o e).2
      refine wpAny_pure ?_
      simp only [if_true]
      refine thnF (pe.run _ s8 σ8 H8 _ I8 q8) fun z s10 ⟨yv, H10, I10, r10, k, b, L, ey, hD10, hk, hall, h1, nx⟩ => ?_
      subst ey
      cases (show z = Value.ref b from r10)
      exact addN (X := X.blk s3 H3 scope ce fp) I10 hu hD10 hall hk h1 fun L' s11 z1 z2 I11 => fin I11 (nx L' z1 z2)
  exact PpSet.codeAny_compStart_set loop (T.self X.A 0 _ _ _ st4 loop)
end
end Sr
/-! sorted(a set of pairs), as a rule. -/
namespace Sr
open PySem PySem.Spec PyProof.Rows L2
theorem refs_of {L : List (Addr × PK)} : ∀ {us : List Value}, (∀ u ∈ us, ∃ q ∈ L, u = Value.ref q.1) → ∃ as : List Addr, us = as.map Value.ref ∧ Vals (as.map V.ref) us
  | [], _ => ⟨[], rfl, .nil⟩
  | u :: us, h => by
    obtain ⟨q, _, rfl⟩ := h u List.mem_cons_self
    obtain ⟨as, rfl, r⟩ := refs_of (us := us) fun v m => h v (List.mem_cons_of_mem _ m)
    exact ⟨q.1 :: as, rfl, .cons rfl r⟩
def rSortedN (P : Program) (w : World) : List V → Hp → VK → Prop := fun xs H Q => ∃ (a : Addr) (L : List (Addr × PK)), xs = [.ref a] ∧ H a = some (SetNO P w a L) ∧ (∀ p ∈ L, PairH H p.2 p.1) ∧ ∀ (as : List Addr) (p : Addr), as.Perm (L.map (·.1)) → H p = none → Q (.ref p) (upd H p (.lst (as.map V.ref)))
theorem call_sortedN {X : Cx} (hc : X.calm = true) (hu : X.A.units + 64 < cLine) : CallR X (.builtin "sorted") (rSortedN X.prog X.w) := by
  intro pins s σ H xs us Q I r h
  obtain ⟨a, L, rfl, ha, hall, q⟩ := h
  obtain ⟨u, rfl, rx⟩ := vals1 r
  cases rx
  have R0 : SetN0 X.prog X.w s.heap a L := (I.hok a _ ha).1
  obtain ⟨es, ep, t, R⟩ := R0.full fun p m => (hall p m).at I
  refine R.sorted (I.ok.hd hc) hu fun s' p out c k1 g1 o1 hp ho pm => ?_
  obtain ⟨as, e1, rv⟩ := refs_of (L := L) (us := out.toList) fun v m => by
    obtain ⟨q, hq, e⟩ := List.mem_map.mp (pm.mem_iff.mp m)
    exact ⟨q, hq, e.symm⟩
  have few : as.length ≤ 2 := by
    have z := pm.length_eq
    rw [e1, List.length_map, List.length_map] at z
    rw [z]
    exact R.few
  have pa : as.Perm (L.map (·.1)) := by
    have z := pm
    rw [e1, show (L.map fun q => Value.ref q.1) = (L.map (·.1)).map Value.ref by rw [List.map_map]; rfl] at z
    have z2 := z.map fun v => match v with
      | .ref b => b
      | _ => sysModules
    rw [List.map_map, List.map_map] at z2
    have idl : ∀ l : List Addr, l.map ((fun v => match v with
      | Value.ref b => b
      | _ => sysModules) ∘ Value.ref) = l := fun l => (List.map_congr_left fun _ _ => rfl).trans (List.map_id l)
    rw [idl, idl] at z2
    exact z2
  have hn : H p = none := I.hok.fresh hp
  have J : Inv X pins σ (upd H p (.lst (as.map V.ref))) { s with heap := s'.heap, gens := s'.gens, drawn := s'.drawn, toks := s'.toks } :=
    I.call (ch := []) (Un.laid k1 hp hn) (I.hok.laid k1 hp ⟨by rw [List.length_map, sizeLine_eq]; omega, out.toList, c, rv, ho⟩) (by rw [g1]; exact I.bare) (fun _ z => nomatch z)
  have e : s' = { s with heap := s'.heap, gens := s'.gens, drawn := s'.drawn, toks := s'.toks } := by
    cases s'
    cases s
    cases o1
    rfl
  rw [e]
  exact ⟨.ref p, _, J, rfl, q as p pa hn⟩
end Sr
/-! Dicts: pairs to numbers. -/
namespace Sr
open PySem PySem.Spec PyProof.Rows L2
/-- the key's tuple, the key, the number -/
abbrev Cnt := Addr × PK × Int
inductive KvN : List (NestedKey × Addr × Value) → List Cnt → Prop
  | nil : KvN [] []
  | cons (a : Addr) (k : PK) (c : Int) (t : Tok) {xs : List (NestedKey × Addr × Value)} {kvs : List Cnt} : KvN xs kvs → KvN ((keyP k, a, .int c t) :: xs) ((a, k, c) :: kvs)
def getN (kvs : List Cnt) (k : PK) : Option Int := (kvs.find? fun p => decide (p.2.1 = k)).map (·.2.2)
def setN1 (k : PK) (c : Int) (p : Cnt) : Cnt := if p.2.1 = k then (p.1, p.2.1, c) else p
def putN (kvs : List Cnt) (a : Addr) (k : PK) (c : Int) : List Cnt := if (getN kvs k).isSome then kvs.map (setN1 k c) else kvs ++ [(a, k, c)]
theorem KvN.len {xs : List (NestedKey × Addr × Value)} {kvs : List Cnt} (r : KvN xs kvs) : xs.length = kvs.length := by
  induction r with
  | nil => rfl
  | cons a k c t r ih => rw [List.length_cons, List.length_cons, ih]
theorem KvN.keys {xs : List (NestedKey × Addr × Value)} {kvs : List Cnt} (r : KvN xs kvs) : xs.map (·.1) = (kvs.map (·.2.1)).map keyP := by
  induction r with
  | nil => rfl
  | cons a k c t r ih => rw [List.map_cons, List.map_cons, List.map_cons, ih]
theorem KvN.at {xs : List (NestedKey × Addr × Value)} {kvs : List Cnt} (r : KvN xs kvs) : ∀ {i : Nat} {p : Cnt}, kvs[i]? = some p → ∃ t, xs[i]? = some (keyP p.2.1, p.1, .int p.2.2 t) := by
  induction r with
  | nil => intro i p e; simp at e
  | cons a k c t r ih =>
    intro i p e
    cases i with
    | zero =>
      simp only [List.getElem?_cons_zero, Option.some.injEq] at e
      subst e
      exact ⟨t, rfl⟩
    | succ i => exact ih (by simpa using e)
theorem KvN.each {xs : List (NestedKey × Addr × Value)} {kvs : List Cnt} (r : KvN xs kvs) {x : NestedKey × Addr × Value} (m : x ∈ xs) : ∃ p ∈ kvs, x.1 = keyP p.2.1 ∧ x.2.1 = p.1 := by
  induction r with
  | nil => cases m
  | cons a k c t r ih =>
    rcases List.mem_cons.mp m with rfl | m
    · exact ⟨_, List.mem_cons_self, rfl, rfl⟩
    · obtain ⟨p, hp, e⟩ := ih m
      exact ⟨p, List.mem_cons_of_mem _ hp, e⟩
theorem keyP_iff {a b : PK} : keyP a = keyP b ↔ a = b := ⟨keyP_inj, fun e => by rw [e]⟩
theorem KvN.get {xs : List (NestedKey × Addr × Value)} {kvs : List Cnt} (r : KvN xs kvs) (k : PK) : (∀ c, getN kvs k = some c → ∃ a t, atKey xs (keyP k) = some (a, .int c t)) ∧ (getN kvs k = none → atKey xs (keyP k) = none) := by
  induction r with
  | nil => exact ⟨fun c e => by simp [getN] at e, fun _ => rfl⟩
  | cons a k' c t r ih =>
    unfold getN atKey at ih ⊢
    by_cases e : k' = k
    · subst e
      simp only [List.find?_cons, decide_true, Option.map_some]
      exact ⟨fun c' h => ⟨a, t, by rw [Option.some.inj h]⟩, fun h => by cases h⟩
    · simp only [List.find?_cons, decide_eq_false e, decide_eq_false (fun z => e (keyP_inj z))]
      exact ih
theorem KvN.map {xs : List (NestedKey × Addr × Value)} {kvs : List Cnt} (r : KvN xs kvs) (k : PK) (c : Int) (t : Tok) : KvN (xs.map (putAt (keyP k) (.int c t))) (kvs.map (setN1 k c)) := by
  induction r with
  | nil => exact .nil
  | cons a k' c' t' r ih =>
    rw [List.map_cons, List.map_cons]
    by_cases e : k' = k
    · have e1 : putAt (keyP k) (.int c t) (keyP k', a, Value.int c' t') = (keyP k', a, .int c t) := by unfold putAt; rw [if_pos (by rw [e])]
      have e2 : setN1 k c (a, k', c') = (a, k', c) := by unfold setN1; rw [if_pos e]
      rw [e1, e2]
      exact .cons a k' c t ih
    · have e1 : putAt (keyP k) (.int c t) (keyP k', a, Value.int c' t') = (keyP k', a, .int c' t') := by unfold putAt; rw [if_neg fun z => e (keyP_inj z)]
      have e2 : setN1 k c (a, k', c') = (a, k', c') := by unfold setN1; rw [if_neg e]
      rw [e1, e2]
      exact .cons a k' c' t' ih
theorem KvN.app {xs : List (NestedKey × Addr × Value)} {kvs : List Cnt} (r : KvN xs kvs) (a : Addr) (k : PK) (c : Int) (t : Tok) : KvN (xs ++ [(keyP k, a, .int c t)]) (kvs ++ [(a, k, c)]) := by
  induction r with
  | nil => exact .cons a k c t .nil
  | cons a' k' c' t' r ih => exact .cons a' k' c' t' ih
theorem KvN.put {xs : List (NestedKey × Addr × Value)} {kvs : List Cnt} (r : KvN xs kvs) (a : Addr) (k : PK) (c : Int) (t : Tok) : KvN (storedH xs (keyP k) a (.int c t)) (putN kvs a k c) := by
  obtain ⟨g1, g2⟩ := r.get k
  unfold putN
  cases e : getN kvs k with
  | none =>
    rw [storedH_new (g2 e)]
    exact r.app a k c t
  | some c0 =>
    obtain ⟨b, u, z⟩ := g1 c0 e
    rw [storedH_old z]
    exact r.map k c t
structure Dic0 (P : Program) (w : World) (h : Heap) (d : Addr) (kvs : List Cnt) (es : Array DictEntry) (ep : Nat) : Prop where
  ns : (d == sysModules) = false
  few : kvs.length ≤ 1000
  nd : (kvs.map (·.2.1)).Nodup
  rows : ∃ xs, KvN xs kvs ∧ es.toList = xs.map (entryOfKey (nestedKind P w))
  raw : h.DictRaw d es ep
def DicO (P : Program) (w : World) (d : Addr) (kvs : List Cnt) (es : Array DictEntry) (ep : Nat) : HO := .ext fun h => Dic0 P w h d kvs es ep
section
variable {P : Program} {w : World} {h : Heap} {d : Addr} {kvs : List Cnt} {es : Array DictEntry} {ep : Nat}
theorem Dic0.dict (R : Dic0 P w h d kvs es ep) (ht : ∀ p ∈ kvs, PairT h p.2.1 p.1) : ∃ xs, KvN xs kvs ∧ h.DictOfH (nestedKind P w) d xs := by
  obtain ⟨xs, r, e⟩ := R.rows
  obtain ⟨o, ho, hx, hd⟩ := R.raw
  refine ⟨xs, r, o, es, ep, ho, hx, hd, e, fun x m => ?_, ?_⟩
  · obtain ⟨p, hp, e1, e2⟩ := r.each m
    rw [e1, e2]
    exact (ht p hp).nested
  · rw [r.keys]
    exact List.Pairwise.map _ (fun a b ne z => ne (keyP_inj z)) R.nd
theorem Dic0.obj {H : Hp} (R : Dic0 P w h d kvs es ep) : ObjOk P w H h d (DicO P w d kvs es ep) := by
  obtain ⟨o, ho, r⟩ := R.raw
  exact ⟨R, ⟨o, ho⟩, fun h1 h2 p k => ⟨p.ns, p.few, p.nd, p.rows, p.raw.at k⟩⟩
theorem getN_none {k : PK} (h : getN kvs k = none) : k ∉ kvs.map (·.2.1) := fun m => by
  obtain ⟨p, hp, e⟩ := List.mem_map.mp m
  unfold getN at h
  rw [Option.map_eq_none_iff, List.find?_eq_none] at h
  exact h p hp (by simpa using e)
theorem putN_keys (a : Addr) (k : PK) (c : Int) : (putN kvs a k c).map (·.2.1) = if (getN kvs k).isSome then kvs.map (·.2.1) else kvs.map (·.2.1) ++ [k] := by
  unfold putN
  split
  · rw [List.map_map]
    refine List.map_congr_left fun p _ => ?_
    show (setN1 k c p).2.1 = p.2.1
    unfold setN1
    split <;> rfl
  · rw [List.map_append]
    rfl
theorem putN_nd (hn : (kvs.map (·.2.1)).Nodup) (a : Addr) (k : PK) (c : Int) : ((putN kvs a k c).map (·.2.1)).Nodup := by
  rw [putN_keys]
  split
  · exact hn
  · rename_i z
    refine List.nodup_append.mpr ⟨hn, List.pairwise_singleton _ _, fun x hx y hy e => ?_⟩
    rw [List.mem_singleton] at hy
    rw [e, hy] at hx
    exact getN_none (by simpa using z) hx
theorem putN_len (a : Addr) (k : PK) (c : Int) : (putN kvs a k c).length ≤ kvs.length + 1 := by
  unfold putN
  split
  · rw [List.length_map]; omega
  · rw [List.length_append]; exact Nat.le_refl _
theorem putN_mem {a : Addr} {k : PK} {c : Int} {p : Cnt} (m : p ∈ putN kvs a k c) : (∃ q ∈ kvs, q.1 = p.1 ∧ q.2.1 = p.2.1) ∨ p.1 = a ∧ p.2.1 = k := by
  unfold putN at m
  split at m
  · obtain ⟨q, hq, rfl⟩ := List.mem_map.mp m
    refine .inl ⟨q, hq, ?_⟩
    unfold setN1
    split <;> exact ⟨rfl, rfl⟩
  · rcases List.mem_append.mp m with m | m
    · exact .inl ⟨p, m, rfl, rfl⟩
    · rw [List.mem_singleton.mp m]
      exact .inr ⟨rfl, rfl⟩
end
section
variable {X : Cx} {pins : List (Addr × Obj)} {σ : L2.St} {H : Hp} {s : Shared} {E : Value → Shared → Prop} {A : Around} {d : Addr} {kvs : List Cnt} {es : Array DictEntry} {ep : Nat} {b : Addr} {k : PK}
theorem Inv.dicN (I : Inv X pins σ H s) (hd : H d = some (DicO X.prog X.w d kvs es ep)) : Dic0 X.prog X.w s.heap d kvs es ep := (I.hok d _ hd).1
/-- d.get(k, n) -/
theorem getN_call {n : Int} {t : Tok} {Q : Value → Shared → Prop} (hu : A.units + 64 < cLine) (I : Inv X pins σ H s) (hd : H d = some (DicO X.prog X.w d kvs es ep)) (hall : ∀ p ∈ kvs, PairH H p.2.1 p.1) (hk : PairH H k b)
    (h : ∀ t' s', Inv X pins σ H s' → Q (.int ((getN kvs k).getD n) t') s') : wpAny (model X.prog X.w) A (call (.builtin "dict.get") [.ref d, .ref b, .int n t]) Q E s := by
  have R := Inv.dicN I hd
  obtain ⟨xs, r, D⟩ := R.dict fun p m => (hall p m).at I
  refine call_meetsIn PySem.F.slot_dict_get D.typeIs PySem.F.entry_dict_get (PySem.F.args_dict_get_3 _ _ _) (meetsH_dict_get_default (nestedKind X.prog X.w) d b R.ns (.int n t))
    ⟨show A.in1.units + 8 < cLine by simp only [Around.in1_units]; omega, keyP k, xs, (hk.at I).nested, D, ?_⟩
  obtain ⟨g1, g2⟩ := r.get k
  cases e : getN kvs k with
  | none =>
    rw [g2 e]
    show Q (.int n t) _
    have := h t _ (I.tok (s.toks + (nestedKind X.prog X.w).draws (keyP k)))
    rw [e] at this
    exact this
  | some c =>
    obtain ⟨a, u, z⟩ := g1 c e
    rw [z]
    show Q (.int c u) _
    have := h u _ (I.tok (s.toks + (nestedKind X.prog X.w).draws (keyP k)))
    rw [e] at this
    exact this
/-- d[k] = c -/
theorem putN_call {c : Int} {t : Tok} {Q : Unit → Shared → Prop} (hu : A.units + 64 < cLine) (I : Inv X pins σ H s) (hd : H d = some (DicO X.prog X.w d kvs es ep)) (hall : ∀ p ∈ kvs, PairH H p.2.1 p.1) (hk : PairH H k b) (hf : kvs.length < 1000)
    (h : ∀ es' ep' s', Inv X pins σ (upd H d (DicO X.prog X.w d (putN kvs b k c) es' ep')) s' → Q () s') : wpAny (model X.prog X.w) A (setItem (.ref d) (.ref b) (.int c t)) Q E s := by
  have R := Inv.dicN I hd
  obtain ⟨xs, r, D⟩ := R.dict fun p m => (hall p m).at I
  refine wpAny_setItem_heap (knd := nestedKind X.prog X.w) (hsz := by rw [r.len, sizeLine_eq]; omega) (show A.in1.units + 8 < cLine by simp only [Around.in1_units]; omega) (hk.at I).nested D fun h' D' hs => ?_
  obtain ⟨o, es', ep', ho, hx, hdt, e', _, _⟩ := D'
  refine h es' ep' _ (d_write (t' := s.toks + (nestedKind X.prog X.w).draws (keyP k)) I (by rw [hd]; exact True.intro) hs ⟨o, ho⟩ ?_)
  exact Dic0.obj ⟨R.ns, by have := putN_len (kvs := kvs) b k c; omega, putN_nd R.nd b k c, ⟨_, r.put b k c t, e'⟩, o, ho, hx, hdt⟩
end
end Sr
/-! Dicts of pairs: the rules; the pairs of such a dict, walked. -/
namespace Sr
open PySem PySem.Spec PyProof.Rows L2
def tDNewN (P : Program) (w : World) : TE := fun _ H Q => ∀ p, H p = none → Q (.ref p) (upd H p (DicO P w p [] #[] 0))
def tGetN (P : Program) (w : World) (td ty tx : TE) : TE := fun σ H Q => td σ H fun x H1 => ∃ (d : Addr) (kvs0 : List Cnt) (es0 : Array DictEntry) (ep0 : Nat), x = .ref d ∧ H1 d = some (DicO P w d kvs0 es0 ep0) ∧ ty σ H1 fun y H2 => tx σ H2 fun z H3 =>
  ∃ (kvs : List Cnt) (es : Array DictEntry) (ep : Nat) (b : Addr) (k : PK) (n : Int), H3 d = some (DicO P w d kvs es ep) ∧ y = .ref b ∧ PairH H3 k b ∧ (∀ p ∈ kvs, PairH H3 p.2.1 p.1) ∧ z = .int n ∧ Q (.int ((getN kvs k).getD n)) H3
def sPutN (P : Program) (w : World) (td ty tv : TE) : TS := fun D σ H => tv σ H fun v H1 => td σ H1 fun x H2 => ty σ H2 fun y H3 =>
  ∃ (d : Addr) (kvs : List Cnt) (es : Array DictEntry) (ep : Nat) (b : Addr) (k : PK) (c : Int), x = .ref d ∧ H3 d = some (DicO P w d kvs es ep) ∧ y = .ref b ∧ PairH H3 k b ∧ (∀ p ∈ kvs, PairH H3 p.2.1 p.1) ∧ v = .int c ∧ kvs.length < 1000 ∧
    ∀ es' ep', D.nx σ (upd H3 d (DicO P w d (putN kvs b k c) es' ep'))
section
variable {X : Cx} {o i e f value : Expr} {pos pos' apos cpos : Pos} {td ty tx tv : TE}
theorem pe_dnewN : PE X (.Dict [] [] pos) (tDNewN X.prog X.w) := ⟨fun pins s σ H Q I h =>
  wpAny_Dict_empty ⟨.ref s.heap.objs.size, _, I.laid (a := s.heap.objs.size) (o := DicO X.prog X.w s.heap.objs.size [] #[] 0) (t' := s.toks) (fun _ _ q => Heap.get?_push_of_some _ q) (Nat.le_refl _)
    (Dic0.obj ⟨beq_eq_false_iff_ne.mpr (Ne.symm (Nat.ne_of_lt I.big)), Nat.zero_le _, List.nodup_nil, ⟨[], .nil, rfl⟩, _, Heap.get?_push_size _ rfl, ⟨rfl, rfl, rfl⟩, rfl⟩), rfl, h _ (I.hok.fresh (Nat.le_refl _))⟩⟩
theorem pe_getN (hu : X.A.units + 64 < cLine) (ho : PE X o td) (he : PE X e ty) (hf : PE X f tx) (m : M2 X o "get" apos e f cpos) : PE X (.Call (.Attribute o "get" apos) [e, f] [] cpos) (tGetN X.prog X.w td ty tx) := by
  refine ⟨fun pins s σ H Q I h => ?_⟩
  refine wpAny_Call_method m.base m.few m.line PySem.F.plainAttrs_dict PySem.F.slot_dict_get PySem.F.type_dict_get (thn (ho.run pins s σ H _ I h) fun u s1 ⟨x, H1, I1, rx, d, kvs0, es0, ep0, ex, hd0, q1⟩ => ?_)
  subst ex
  obtain rfl : u = Value.ref d := rx
  obtain ⟨o1, ho1, hx1, _⟩ := (Inv.dicN I1 hd0).raw
  refine ⟨⟨o1, ho1, hx1.1⟩, fun b q => ?_, ?_⟩
  · cases q
    exact ⟨o1, ho1, hx1.2.1⟩
  rw [m.trees]
  refine Calls.callWith_builtin rfl (Calls.evalArgs_plain (Calls.spliced_cons (thn (he.run pins s1 σ H1 _ I1 q1) fun iv s2 ⟨y, H2, I2, ry, q2⟩ =>
    Calls.spliced_cons (thn (hf.run pins s2 σ H2 _ I2 q2) fun fv s3 ⟨z, H3, I3, rz, kvs, es, ep, b, k, n, hd, ey, hk, hall, ez, q3⟩ => Calls.spliced_nil ?_))))
  subst ey ez
  obtain rfl : iv = Value.ref b := ry
  obtain ⟨t, rfl⟩ := rz
  exact getN_call hu I3 hd hall hk fun t' s4 I4 => ⟨.int ((getN kvs k).getD n), H3, I4, ⟨t', rfl⟩, q3⟩
theorem ps_putN (hu : X.A.units + 64 < cLine) (ho : PE X o td) (hi : PE X i ty) (hv : PE X value tv) (hs : swapsWith value (some (.Subscript o i pos')) pos.line X.env = pure false) :
    PS X (.Assign [.Subscript o i pos'] value pos) (sPutN X.prog X.w td ty tv) := by
  refine ⟨fun pins s σ H D I h => ?_⟩
  refine wpAny_Assign_Subscript (thn (hv.run pins s σ H _ I h) fun r s1 ⟨v, H1, I1, rv, q1⟩ => thn (ho.run pins s1 σ H1 _ I1 q1) fun u s2 ⟨x, H2, I2, rx, q2⟩ => thn (hi.run pins s2 σ H2 _ I2 q2) fun iv s3 ⟨y, H3, I3, ry, d, kvs, es, ep, b, k, c, ex, hd, ey, hk, hall, ev, hf, q3⟩ => ?_) hs
  subst ex ey ev
  obtain rfl : u = Value.ref d := rx
  obtain rfl : iv = Value.ref b := ry
  obtain ⟨t, rfl⟩ := rv
  exact putN_call hu I3 hd hall hk hf fun es' ep' s4 I4 => ⟨σ, _, I4, q3 es' ep'⟩
end
/-- the pairs (key, number), each a new tuple -/
def Itn (P : Program) (w : World) (d : Addr) (kvs : List Cnt) (es : Array DictEntry) (ep : Nat) : It :=
  ⟨fun i H => H d = some (DicO P w d kvs es ep) ∧ i < kvs.length, fun i H x H' => ∃ T p, kvs[i]? = some p ∧ x = .ref T ∧ H T = none ∧ H' = upd H T (.tup [.ref p.1, .int p.2.2]), fun i H => H d = some (DicO P w d kvs es ep) ∧ kvs.length ≤ i⟩
theorem walk_itn {P : Program} {w : World} {d : Addr} {kvs : List Cnt} {es : Array DictEntry} {ep : Nat} : Walk (Itn P w d kvs es ep) kvs.length (fun H => H d = some (DicO P w d kvs es ep)) (fun i H x H' => ∃ T p, kvs[i]? = some p ∧ x = .ref T ∧ H T = none ∧ H' = upd H T (.tup [.ref p.1, .int p.2.2])) :=
  ⟨fun _ _ hi q => ⟨q, hi⟩, fun _ q => ⟨q, Nat.le_refl _⟩, fun _ _ _ _ _ _ y => y⟩
theorem Dic0.size {P : Program} {w : World} {h : Heap} {d : Addr} {kvs : List Cnt} {es : Array DictEntry} {ep : Nat} (R : Dic0 P w h d kvs es ep) : es.size = kvs.length := by
  obtain ⟨xs, r, e⟩ := R.rows
  rw [← Array.length_toList, e, List.length_map, r.len]
theorem Dic0.ent {P : Program} {w : World} {h : Heap} {d : Addr} {kvs : List Cnt} {es : Array DictEntry} {ep : Nat} (R : Dic0 P w h d kvs es ep) {i : Nat} {p : Cnt} (hp : kvs[i]? = some p) (hi : i < es.size) : es[i].key = .ref p.1 ∧ ∃ t, es[i].val = .int p.2.2 t := by
  obtain ⟨xs, r, e⟩ := R.rows
  obtain ⟨t, ht⟩ := r.at hp
  have z : es[i]? = some (entryOfKey (nestedKind P w) (keyP p.2.1, p.1, .int p.2.2 t)) := by
    rw [← Array.getElem?_toList, e, List.getElem?_map, ht]
    rfl
  have z2 : es[i]? = some es[i] := Array.getElem?_eq_getElem hi
  rw [z2] at z
  have z3 := Option.some.inj z
  rw [z3]
  exact ⟨rfl, t, rfl⟩
theorem turn_itn {P : Program} {w : World} {K : PySem.W.Frag} {d : Addr} {kvs : List Cnt} {es : Array DictEntry} {ep : Nat} {elts : List Expr} {kk : Nat} {tpos : Pos} (it : Addr) :
    Turn P w K (.Tuple elts kk tpos) (Itn P w d kvs es ep) [it] it (fun i h => ∃ ok ov, IsItemIter h it d i es.size ep ok ov) where
  mem := by simp
  obj := fun i h st b hb => by
    have e : b = it := by simpa using hb
    subst e
    obtain ⟨ok, ov, e⟩ := st
    exact ⟨_, e, fun v z => nomatch z⟩
  keep := fun i h h' st k => let ⟨ok, ov, e⟩ := st; ⟨ok, ov, k it (by simp) _ e⟩
  item := by
    intro X hP hw hK hc i pins s σ H E I hf st hg
    subst hP hw hK
    obtain ⟨hd, hi⟩ := hg
    have R := Inv.dicN I hd
    obtain ⟨p, hp⟩ : ∃ p, kvs[i]? = some p := ⟨kvs[i], List.getElem?_eq_getElem hi⟩
    have hi' : i < es.size := by rw [R.size]; exact hi
    obtain ⟨ek, t, ev⟩ := R.ent hp hi'
    obtain ⟨ok, ov, he⟩ := st
    have hlt : it < s.heap.objs.size := Heap.lt_size he
    refine wpAny_pyNext_items_item_raw he R.raw hi' fun h' ho hT hz hk => ?_
    rw [ek, ev] at ho hT
    refine ⟨_, rfl, wpAny_letOwnedTupleGo_items (s := { s with heap := h' }) ho fun h'' he' sb => ?_⟩
    have hT2 : h''.get? s.heap.objs.size = some { cls := .type "tuple", data := .seq #[.ref p.1, .int p.2.2 t] } := (sb.2 _ (Nat.ne_of_gt hlt)).trans hT
    have new : ObjOk X.prog X.w (upd H s.heap.objs.size (.tup [.ref p.1, .int p.2.2])) h'' s.heap.objs.size (.tup [.ref p.1, .int p.2.2]) :=
      ⟨by show 2 ≤ sizeLine; decide, [.ref p.1, .int p.2.2 t], .cons rfl (.cons ⟨t, rfl⟩ .nil), ⟨_, hT2, rfl, _, rfl⟩⟩
    have I1 : Inv X pins σ (upd H s.heap.objs.size (.tup [.ref p.1, .int p.2.2])) { s with heap := h'' } :=
      I.turnedNew (t' := s.toks) (ch := [it]) (fun b ob hb e => (sb.2 b (by simpa using hb)).trans (hk b ob (by simpa using hb) e)) hf (Nat.le_refl _) new
    refine ⟨.ref s.heap.objs.size, _, I1, rfl, ⟨_, p, hp, rfl, I.hok.fresh (Nat.le_refl _), rfl⟩, ⟨_, _, he'⟩, fun b hb => ?_⟩
    have e : b = it := by simpa using hb
    rw [e, upd_ne (Nat.ne_of_lt hlt)]
    exact (hf it (by simp)).1
  done := by
    intro X hP hw hK hc i pins s σ H E I hf st hg
    subst hP hw hK
    obtain ⟨hd, hi⟩ := hg
    obtain ⟨f0, f1, f2, f3, f4, f5⟩ := hf it (by simp)
    have R := Inv.dicN I hd
    obtain ⟨ok, ov, he⟩ := st
    exact wpAny_pyNext_items_end_raw (I.ok.hd hc) he R.raw (by rw [R.size]; exact hi) fun h' eb => ⟨rfl, I.turned (t' := s.toks) (fun b ob hb e => eb b ob hb e) f0 f1 f3 f4 f5⟩
  self := fun A i s Q E st h => let ⟨_, _, e⟩ := st; PySem.W.kcp_self e h
def iItemsN (P : Program) (w : World) (td : TE) : TI := fun σ H R => td σ H fun x H1 => ∃ (d : Addr) (kvs : List Cnt) (es : Array DictEntry) (ep : Nat), x = .ref d ∧ H1 d = some (DicO P w d kvs es ep) ∧ R (Itn P w d kvs es ep) H1
theorem pi_itemsN {X : Cx} {e : Expr} {td : TE} {apos cpos : Pos} {elts : List Expr} {kk : Nat} {tpos : Pos} (he : PE X e td) (hbase : attributeBase e "items" X.env (eval e X.env) = eval e X.env := by rfl) (hline : (apos.endLine == cpos.line) = true := by rfl) :
    PI X (.Tuple elts kk tpos) (.Call (.Attribute e "items" apos) [] [] cpos) (iItemsN X.prog X.w td) := by
  refine ⟨fun pins s σ H R I h => ?_⟩
  refine wpAny_Call_method (T := "dict") (id := "dict.items") hbase rfl hline PySem.F.plainAttrs_dict PySem.F.slot_dict_items PySem.F.type_dict_items (thn (he.run pins s σ H _ I h) fun u s1 ⟨x, H1, I1, rx, d, kvs, es, ep, ex, hd, q⟩ => ?_)
  subst ex
  obtain rfl : u = Value.ref d := rx
  have D := Inv.dicN I1 hd
  obtain ⟨o1, ho1, hx1, hd1⟩ := id D.raw
  refine ⟨⟨o1, ho1, hx1.1⟩, fun b q => by cases q; exact ⟨o1, ho1, hx1.2.1⟩, ?_⟩
  have I2 : Inv X pins σ H1 { s1 with heap := s1.heap.push { cls := .type "dict_items", data := .fields #[.ref d] } } := I1.kept (t' := s1.toks) fun b ob q => Heap.get?_push_of_some _ q
  have fin : wpAny (model X.prog X.w) X.A (pyIter (.ref s1.heap.objs.size)) (PIE X pins σ (.Tuple elts kk tpos) R) X.xe { s1 with heap := s1.heap.push { cls := .type "dict_items", data := .fields #[.ref d] } } := by
    refine wpAny_pyIter_items_raw (d := d) (es := es) (ep := ep) ⟨_, Heap.get?_push_size _ rfl, rfl, rfl⟩ (D.raw.at fun _ e => Heap.get?_push_of_some _ e) (pi_one (tk := s1.toks) I2 _ (turn_itn _) ⟨.none, .none, ?_⟩ q)
    exact Heap.get?_push_size _ rfl
  show wpAny _ _ (callWith cpos (.builtin "dict.items") [.ref d] [] []) _ X.xe s1
  exact method_meetsIn PySem.F.slot_dict_items PySem.F.entry_dict_items rfl (PySem.evalArgs_none ⟨rfl, D.raw.typeIs, PySem.F.args_dict_items_1 _, _, meets_dict_items_raw d D.ns, ⟨es, ep, D.raw⟩, fin⟩)
end Sr
/-! The greatest of pairs. -/
namespace Sr
open PySem PySem.Spec PyProof.Rows L2
def ltP (a b : PK) : Bool := PySem.W.dataLt (pairD a) (pairD b)
theorem toks_ints : ∀ (xs ys : List Int) (s t : List (Int ⊕ List Nat)), PySem.W.keyToksAll (xs.map PyData.int) ++ s = PySem.W.keyToksAll (ys.map PyData.int) ++ t → xs = ys
  | [], [], _, _, _ => rfl
  | [], y :: ys, s, t, h => by simp [PySem.W.keyToksAll, PySem.W.keyToks] at h
  | x :: xs, [], s, t, h => by simp [PySem.W.keyToksAll, PySem.W.keyToks] at h
  | x :: xs, y :: ys, s, t, h => by
    simp only [List.map_cons, PySem.W.keyToksAll, PySem.W.keyToks, List.cons_append, List.nil_append, List.cons.injEq, Sum.inl.injEq, true_and] at h
    rw [h.1, toks_ints xs ys s t h.2]
theorem toks_pair {a b : PK} (h : PySem.W.keyToks (pairD a) = PySem.W.keyToks (pairD b)) : a = b := by
  unfold pairD at h
  simp only [PySem.W.keyToksAll, PySem.W.keyToks, List.cons_append, List.nil_append, List.cons.injEq, Sum.inl.injEq, true_and] at h
  exact Prod.ext h.1 (toks_ints _ _ _ _ h.2)
theorem ltP_same {a b : PK} (h1 : ltP a b = false) (h2 : ltP b a = false) : a = b := toks_pair (PyProof.Rows.lex_total _ _ h1 h2)
theorem fold_max : ∀ (xs : List PyData) (a : PyData), (xs.foldl (fun a y => if PySem.W.dataLt a y then y else a) a = a ∨ xs.foldl (fun a y => if PySem.W.dataLt a y then y else a) a ∈ xs) ∧
    PySem.W.dataLt (xs.foldl (fun a y => if PySem.W.dataLt a y then y else a) a) a = false ∧ ∀ y ∈ xs, PySem.W.dataLt (xs.foldl (fun a y => if PySem.W.dataLt a y then y else a) a) y = false
  | [], a => ⟨.inl rfl, PyProof.Rows.lex_irrefl _, fun _ m => nomatch m⟩
  | y :: ys, a => by
    rw [List.foldl_cons]
    by_cases h : PySem.W.dataLt a y = true
    · rw [if_pos h]
      obtain ⟨h1, h2, h3⟩ := fold_max ys y
      generalize ys.foldl (fun a y => if PySem.W.dataLt a y then y else a) y = m at h1 h2 h3
      refine ⟨.inr (h1.elim (fun e => by rw [e]; exact List.mem_cons_self) fun z => List.mem_cons_of_mem _ z), ?_, fun z hz => ?_⟩
      · cases e : PySem.W.dataLt m a with
        | false => rfl
        | true => exact absurd (PyProof.Rows.lex_trans _ _ _ e h) (by rw [show PyProof.Rows.lexLt PyProof.Rows.itemOrd (PySem.W.keyToks m) (PySem.W.keyToks y) = PySem.W.dataLt m y from rfl, h2]; decide)
      · rcases List.mem_cons.mp hz with rfl | hz
        · exact h2
        · exact h3 z hz
    · rw [if_neg h]
      have h' : PySem.W.dataLt a y = false := by simpa using h
      obtain ⟨h1, h2, h3⟩ := fold_max ys a
      generalize ys.foldl (fun a y => if PySem.W.dataLt a y then y else a) a = m at h1 h2 h3
      refine ⟨h1.elim .inl fun z => .inr (List.mem_cons_of_mem _ z), h2, fun z hz => ?_⟩
      rcases List.mem_cons.mp hz with rfl | hz
      · cases e : PySem.W.dataLt m z with
        | false => rfl
        | true =>
          rcases PyProof.Rows.lex_negTrans _ (PySem.W.keyToks a) _ e with q | q
          · exact absurd q (by rw [show PyProof.Rows.lexLt PyProof.Rows.itemOrd (PySem.W.keyToks m) (PySem.W.keyToks a) = PySem.W.dataLt m a from rfl, h2]; decide)
          · exact absurd q (by rw [show PyProof.Rows.lexLt PyProof.Rows.itemOrd (PySem.W.keyToks a) (PySem.W.keyToks z) = PySem.W.dataLt a z from rfl, h']; decide)
      · exact h3 z hz
theorem pairs_read {h : Heap} : ∀ {L : List (Addr × PK)}, (∀ p ∈ L, PairT h p.2 p.1) → ReadsAll h (L.map fun p => Value.ref p.1) (L.map fun p => pairD p.2) []
  | [], _ => .nil
  | p :: L, hp => .cons (as := []) (bs := []) (hp p List.mem_cons_self).reads (pairs_read fun q m => hp q (List.mem_cons_of_mem _ m))
theorem pairs_depth : ∀ L : List (Addr × PK), PyData.depthAll (L.map fun p => pairD p.2) ≤ 2
  | [] => by rw [List.map_nil, PyData.depthAll]; exact Nat.zero_le _
  | p :: L => by
    rw [List.map_cons, PyData.depthAll]
    exact Nat.max_le.mpr ⟨pair_depth p.2, pairs_depth L⟩
/-- max(l, default=None), l a list of pairs -/
def rMaxN : List V → List V → Hp → VK → Prop := fun vs zs H Q => ∃ (l : Addr) (L : List (Addr × PK)), vs = [.ref l] ∧ zs = [.non] ∧ H l = some (.lst (L.map fun p => V.ref p.1)) ∧ (∀ p ∈ L, PairH H p.2 p.1) ∧ (L = [] → Q .non H) ∧
  ∀ p ∈ L, (∀ q ∈ L, ltP p.2 q.2 = false) → Q (.ref p.1) H
theorem cr_maxN {X : Cx} (hc : X.calm = true) (hu : X.A.units + 64 < cLine) : CallRK X (.builtin "max") [Str.ofString "default"] rMaxN := by
  intro pins s σ H vs zs us ws Q I r rz h
  obtain ⟨l, L, rfl, rfl, hl, hall, q0, q1⟩ := h
  obtain rfl := Vals.ref1 r
  obtain ⟨w1, rfl, e1⟩ := vals1 rz
  obtain rfl : w1 = Value.none := e1
  obtain ⟨its, rv, p, hz⟩ := I.list (SqL.of hl)
  have eits : its = L.map fun p => Value.ref p.1 := by
    clear p hl q0 q1 hall hz
    induction L generalizing its with
    | nil => cases rv; rfl
    | cons x L ih =>
      cases rv with
      | cons r1 r2 => cases r1; rw [ih _ r2]; rfl
  subst eits
  have hall' : ∀ p ∈ L, PairT s.heap p.2 p.1 := fun p m => (hall p m).at I
  have hr := pairs_read hall'
  have alk : ∀ p q : Addr × PK, PySem.W.alike (pairD p.2) (pairD q.2) = true := fun p q => alike_pairs p.2 q.2
  refine PySem.W.max_list_default (d := .none) (I.ok.hd hc) p.isList (xs := L.map fun p => pairD p.2) (as := []) (by rw [List.toList_toArray]; exact hr) ?_ (by have := pairs_depth L; omega) (fun e h' tk hk => ?_) fun y ys i v h' tk bs e hv rv' hk => ?_
  · refine ⟨fun d hd d' hd' => ?_, fun d hd => ?_⟩
    · obtain ⟨q, _, rfl⟩ := List.mem_map.mp hd
      obtain ⟨q', _, rfl⟩ := List.mem_map.mp hd'
      exact alk q q'
    · obtain ⟨q, _, rfl⟩ := List.mem_map.mp hd
      exact fun z => nomatch z
  · have : L = [] := by simpa using e
    exact ⟨.non, H, I.kept (t' := tk) hk, rfl, q0 this⟩
  · obtain ⟨f1, _, f3⟩ := fold_max ys y
    have f2 := (fold_max ys y).2.1
    rw [show ys.foldl (fun a y => if PySem.W.dataLt a y then y else a) y = PySem.W.maxD y ys from rfl] at f1 f2 f3
    have hv2 : (L.map fun p => Value.ref p.1)[i]? = some v := by simpa using hv
    rw [List.getElem?_map] at hv2
    obtain ⟨x, hx, ex⟩ := Option.map_eq_some_iff.mp hv2
    subst ex
    have mx := List.mem_of_getElem? hx
    have mm : PySem.W.maxD y ys ∈ L.map fun p => pairD p.2 := by
      rw [e]
      rcases f1 with z | z
      · rw [z]; exact List.mem_cons_self
      · exact List.mem_cons_of_mem _ z
    obtain ⟨x2, mx2, ex2⟩ := List.mem_map.mp mm
    have rx : Reads h' (.ref x.1) (pairD x.2) [] := ((hall' x mx).up fun b o z _ => hk b o z).reads
    have same : PySem.W.maxD y ys = pairD x.2 := PySem.W.alike_unique _ _ _ _ _ (by rw [← ex2]; exact alk x2 x) rv' rx
    refine ⟨.ref x.1, H, I.kept (t' := tk) hk, rfl, q1 x mx fun q mq => ?_⟩
    have mq2 : pairD q.2 ∈ y :: ys := by rw [← e]; exact List.mem_map.mpr ⟨q, mq, rfl⟩
    unfold ltP
    rw [← same]
    rcases List.mem_cons.mp mq2 with z | z
    · rw [z]; exact f2
    · exact f3 _ z
end Sr
/-! Reading: what a copy holds. -/
namespace Sr
open PySem PySem.Spec PyProof.Rows L2
theorem pairH_of {H : Hp} {k : PK} {v : V} (h : TD H v (pairD k)) : ∃ a, v = .ref a ∧ PairH H k a := by
  obtain ⟨a, xs, rfl, ea, ra⟩ := h.tupI
  cases ra with | cons r1 r2 => cases r2 with | cons r2 r3 =>
  cases r1
  cases r3
  obtain ⟨b, ys, rfl, eb, rb⟩ := r2.tupI
  obtain rfl := TDs.ofInts rb
  exact ⟨a, rfl, b, ea, eb⟩
theorem PairH.td {H : Hp} {k : PK} {a : Addr} (h : PairH H k a) : TD H (.ref a) (pairD k) := by
  obtain ⟨b, e1, e2⟩ := h
  exact .tup e1 (.cons (.int _) (.cons (.tup e2 (.ints _)) .nil))
theorem PairH.kp {H H' : Hp} {k : PK} {a : Addr} {S : List Addr} (h : PairH H k a) (kp : Kp S H H') : PairH H' k a := by
  obtain ⟨b, e1, e2⟩ := h
  exact ⟨b, kp.tup _ _ e1, kp.tup _ _ e2⟩
/-- the items of which a test is true -/
theorem el_filter {K : PySem.W.Frag} {σ : L2.St} {H : Hp} {wi : TI} {tt : TT} {n j : Nat} {vs : List Nat} {ds : List PyData} {t : PyData → Bool} (hi : EvIF wi σ H n (YD ds)) (hn : ds.length = n) (hb : n ≤ 100000) (hw : ∀ x, wipe ((wipe σ vs).set j (some x)) vs = wipe σ vs) (hj : ∀ x, ((wipe σ vs).set j (some x))[j]? = some (some x))
    (ht : ∀ d v H1, Kp [] H H1 → TD H1 v d → d ∈ ds → EvT tt ((wipe σ vs).set j (some v)) H1 (t d)) : EvL (tLc wi (gName j) tt (tVar j) vs) σ H (ds.filter t) := fun H1 k1 Q q => hi H1 k1 _ fun J H2 G k2 w hG D hD => by
  refine lc_it w (fun i H' => ∃ us, Kp [] H2 H' ∧ H' D = some (.lst us) ∧ TDs H' us ((ds.take i).filter t)) ⟨[], Kp.new hD, upd_same, .nil⟩ (fun i H' _ ⟨us, k, _⟩ => hG [] H' k fun _ z => nomatch z) (fun i x H' H'' hi' ⟨us, k, e, tu⟩ y => ?_) fun H' ⟨us, k, e, tu⟩ => ?_
  · obtain ⟨rfl, d, hd, td⟩ := y
    refine ⟨hw _, ?_⟩
    have etk : ds.take (i + 1) = ds.take i ++ [d] := by rw [List.take_add_one, hd]; rfl
    refine ht d x H'' ((k1.trans k2).trans k) td (List.mem_of_getElem? hd) H'' (Kp.refl _ _) _ fun H4 k4 => ?_
    have e4 := k4.get e
    by_cases hc : t d = true
    · rw [if_pos hc]
      refine ⟨x, hj x, us, e4, ?_, us ++ [x], (k.trans k4).chg hD, upd_same, ?_⟩
      · have z := (tu.kp k4).len
        have z2 : ((ds.take i).filter t).length ≤ (ds.take i).length := List.length_filter_le _ _
        rw [List.length_take] at z2
        exact lt_line (by omega)
      · rw [etk, List.filter_append, List.filter_cons, if_pos hc, List.filter_nil]
        have kD : Kp [D] H4 (upd H4 D (.lst (us ++ [x]))) := Kp.put (List.mem_singleton.mpr rfl) e4 fun xs z => HO.noConfusion z
        exact ((tu.kp k4).app (.one (td.kp k4))).kp kD
    · rw [if_neg hc]
      refine ⟨us, k.trans k4, e4, ?_⟩
      rw [etk, List.filter_append, List.filter_cons, if_neg hc, List.filter_nil, List.append_nil]
      exact tu.kp k4
  · rw [← hn, List.take_length] at tu
    exact q D us H' (k2.free hD) (k2.trans k) e tu
end Sr
/-! Reading: held. -/
namespace Sr
open PySem PySem.Spec PyProof.Rows L2
theorem retX_s {te : TE} {D : Ends} {σ : L2.St} {H : Hp} (h : te σ H D.rt) : tRet te D σ H := h
def wholeS (s : Sto) : Bool := decide (s.1 = s.2.2)
def keyS (s : Sto) : PK := (s.1, s.2.1)
def stoS (mem : List Int) (n c : Nat) : List Sto := [stoA mem (4 * ((n : Int) + 2) * c) n, stoA mem (4 * ((n : Int) + 2) * c + ((n : Int) + 2)) n]
/-- what a copy holds -/
def heldL (mem : List Int) (n c : Nat) : List PK := ((stoS mem n c).filter wholeS).map keyS
def tW : PyData → Bool
  | .tuple [.int a, _, .int b] => decide (a = b)
  | _ => false
theorem tW_sto (s : Sto) : tW (stoD s) = wholeS s := rfl
theorem stos_filter (ss : List Sto) : (ss.map stoD).filter tW = (ss.filter wholeS).map stoD := by
  rw [List.filter_map]
  rfl
section
variable {P : Program} {w : World} {K : PySem.W.Frag} {mg : Str → Option Value} {base : Heap} {f : Addr} {fd : FuncData}
abbrev s_held : Stmt := top 69
theorem sc_held : FnScope ["ring", "memory", "copy", "whole", "store", "count", "last", "state"] ["ring", "memory", "copy"] (defScope s_held) := ⟨rfl, rfl, rfl, by decide +kernel, rfl, by decide +kernel, by decide +kernel⟩
def ScInv (P : Program) (w : World) (H2 : Hp) (D : Addr) (ss : List Sto) (i : Nat) (H' : Hp) : Prop := ∃ L : List (Addr × PK), Kp [] H2 H' ∧ H' D = some (SetNO P w D L) ∧ (∀ p ∈ L, PairH H' p.2 p.1) ∧ (L.map (·.2)).Nodup ∧ (∀ k, k ∈ L.map (·.2) ↔ k ∈ (ss.take i).map keyS) ∧ L.length ≤ i
theorem scN_run {H : Hp} {Q : VK} {l : Addr} {us : List V} {ss : List Sto} {o0 o1 o2 o4 o5 o6 o7 : Option V} (hl : H l = some (.lst us)) (tu : TDs H us (ss.map stoD)) (h2 : ss.length ≤ 2)
    (q : ∀ D L H', H D = none → Kp [] H H' → H' D = some (SetNO P w D L) → (∀ p ∈ L, PairH H' p.2 p.1) → (L.map (·.2)).Nodup → (∀ k, k ∈ L.map (·.2) ↔ k ∈ ss.map keyS) → L.length ≤ 2 → Q (.ref D) H') :
    tScN P w (iList K (tVar 3)) (gTup K 3 (gCons (gName 5) (gCons (gName 7) (gCons (gName 6) gNil)))) (tTup (tCons (tVar 5) (tCons (tVar 7) tNil))) [5, 7, 6] [o0, o1, o2, some (.ref l), o4, o5, o6, o7] H Q := by
  have hi := ei_list (K := K) (σ := [o0, o1, o2, some (.ref l), o4, o5, o6, o7]) (ta := tVar 3) (ev_var rfl) hl
  refine hi H (Kp.refl _ _) _ fun J H2 G k2 wk hG D hD => ?_
  have hD0 := k2.free hD
  have hul : us.length = ss.length := by rw [tu.len, List.length_map]
  rw [hul] at wk
  refine ⟨fun i m H' => m = ss.length - i ∧ i ≤ ss.length ∧ ScInv P w H2 D ss i H',
    ⟨ss.length, rfl, Nat.zero_le _, [], Kp.new hD, upd_same, (fun p m => nomatch (show p ∈ ([] : List (Addr × PK)) from m)), List.nodup_nil, fun k => Iff.rfl, Nat.le_refl _⟩, ?_⟩
  rintro i m H' ⟨rfl, hin, L, k3, e3, hall, nd, mem, len⟩
  have g3 := hG [] H' k3 fun _ _ z => nomatch z
  by_cases hlt : i < ss.length
  · refine .inr ⟨wk.goes i H' hlt g3, fun H4 => i + 1 ≤ ss.length ∧ ScInv P w H2 D ss (i + 1) H4,
      fun H4 ⟨p1, p2⟩ => ⟨ss.length - (i + 1), by omega, rfl, p1, p2⟩, fun x H4 y => ?_⟩
    obtain ⟨rfl, hx⟩ := wk.yields i H' x H4 hlt g3 y
    obtain ⟨s, hs⟩ : ∃ s, ss[i]? = some s := ⟨_, List.getElem?_eq_getElem hlt⟩
    have kH : Kp [] H H4 := k2.trans k3
    obtain ⟨d, hd, td⟩ := (tu.kp kH).at hx
    rw [List.getElem?_map, hs] at hd
    cases hd
    obtain ⟨a, xs, rfl, ea, ra⟩ := td.tupI
    cases ra with | cons r1 ra => cases ra with | cons r2 ra => cases ra with | cons r3 ra =>
    cases ra
    cases r1
    cases r3
    obtain ⟨b, zs, rfl, eb, rb⟩ := r2.tupI
    obtain rfl := TDs.ofInts rb
    refine ⟨a, _, rfl, SqT.of ea, rfl, ⟨_, _, rfl, ⟨_, _, rfl, ⟨_, _, rfl, ⟨rfl, rfl, ?_⟩⟩⟩⟩⟩
    refine ⟨_, rfl, _, rfl, show 2 ≤ sizeLine by decide, fun p hp => ?_⟩
    have kp : Kp [] H4 (upd H4 p (.tup [.int s.1, .ref b])) := Kp.new hp
    have kD : ∀ L', Kp [D] (upd H4 p (.tup [.int s.1, .ref b])) (upd (upd H4 p (.tup [.int s.1, .ref b])) D (SetNO P w D L')) := fun L' => Kp.put (List.mem_singleton.mpr rfl) (kp.get e3) fun xs z => HO.noConfusion z
    have pk : PairH (upd H4 p (.tup [.int s.1, .ref b])) (keyS s) p := ⟨b, upd_same, kp.tup _ _ eb⟩
    have hall4 : ∀ r ∈ L, PairH (upd H4 p (.tup [.int s.1, .ref b])) r.2 r.1 := fun r m => (hall r m).kp kp
    have etk : ss.take (i + 1) = ss.take i ++ [s] := by rw [List.take_add_one, hs]; rfl
    refine ⟨keyS s, p, L, rfl, kp.get e3, pk, hall4, by omega, fun L' z1 z2 => ⟨hlt, L', (k3.trans kp).chg hD, upd_same, fun r m => ?_, ?_, fun k => ?_, ?_⟩⟩
    · by_cases hm : keyS s ∈ L.map (·.2)
      · rw [z1 hm] at m
        exact (hall4 r m).kp (kD L')
      · rcases List.mem_cons.mp ((z2 hm).mem_iff.mp m) with rfl | m
        · exact pk.kp (kD L')
        · exact (hall4 r m).kp (kD L')
    · by_cases hm : keyS s ∈ L.map (·.2)
      · rw [z1 hm]; exact nd
      · exact ((z2 hm).map (·.2)).nodup_iff.mpr (List.nodup_cons.mpr ⟨hm, nd⟩)
    · rw [etk, List.map_append, List.mem_append, ← mem k]
      by_cases hm : keyS s ∈ L.map (·.2)
      · rw [z1 hm]
        refine ⟨.inl, fun h => h.elim id fun z => ?_⟩
        rw [show k = keyS s by simpa using z]
        exact hm
      · rw [((z2 hm).map (·.2)).mem_iff, List.map_cons, List.mem_cons]
        have : k ∈ [s].map keyS ↔ k = keyS s := by simp
        rw [this]
        exact or_comm
    · by_cases hm : keyS s ∈ L.map (·.2)
      · rw [z1 hm]; omega
      · have := (z2 hm).length_eq
        rw [this, List.length_cons]
        omega
  · have e : i = ss.length := by omega
    subst e
    rw [List.take_length] at mem
    exact .inl ⟨wk.stops H' g3, q D L H' hD0 (k2.trans k3) e3 hall nd mem (by omega)⟩
def sp_held (K : PySem.W.Frag) : Sp := fun vs H Q _ => ∃ (ring l : Addr) (rs : List Rec) (e : Int) (k c : Nat) (mem : List Int), vs = [.ref ring, .ref l, .int c] ∧ RingO H (cR K) ring rs e k ∧ RingG rs e k ∧ H l = some (.lst (mem.map V.int)) ∧ (mem.length : Int) = wordsN rs k ∧ c < k ∧
  ∀ (ks : List PK) v H', Kp [] H H' → ks.Nodup → (∀ x, x ∈ ks ↔ x ∈ heldL mem rs.length c) → ks.length ≤ 2 → TD H' v (.tuple (ks.map pairD)) → Q v H'
theorem ok_held (F : At K mg "held" "held" s_held ["ring", "memory", "copy"] f fd) (T : Txt K mg) (g_stores_of : GF P w K mg base 3 "stores_of" ["ring", "memory", "copy"] (sp_stores_of K)) (g_is_whole : GF P w K mg base 1 "is_whole" ["store"] sp_is_whole) : FnOk P w K mg base CX0 4 f fd ["ring", "memory", "copy"] (sp_held K) := by
  refine F.fn.ok sc_held (fun vs H Q E h => ?_) (fun cdv A0 outer s H vs Q E hr h => ?_)
  · obtain ⟨ring, l, rs, e, k, c, mem, rfl, _⟩ := h
    rfl
  · obtain ⟨ring, l, rs, e, k, c, mem, rfl, ro_, hg, hl, hm, hc, q⟩ := h
    refine ⟨_, (pss_cons (ps_setLc (i := 3) (own := [("store", 4)]) rfl sc_held.nd rfl rfl (sw_true rfl rfl rfl (by decide +kernel)) (pi_tup (pe_gf g_stores_of (hr.mono (by decide)) rfl (pa_cons (pv 0) (pa_cons (pv 1) (pa_cons (pv 2) pa_nil))))) (blkOk_by (own := [("store", 4)]) (N := ["ring", "memory", "copy", "whole", "store", "count", "last", "state"]) (sc := defScope (top 69)) (by decide +kernel)) (fun _ _ _ _ _ => (pg_name (i := 4) sc_held.nd rfl (Or.inl rfl))) (fun _ _ _ _ _ => (pts_one (pt_val (pe_gf g_is_whole (hr.mono (by decide)) rfl (pa_cons (pv 4) pa_nil))))) (fun _ _ _ _ _ => (pv 4)))
      (pss_one (ps_ret (pe_callTy call_tuple_of rfl T.f_tuple (by decide +kernel) (pa_cons (pe_callB (call_sortedN rfl hr.units) rfl T.f_sorted (by decide +kernel) (pa_cons (pe_scN (g := gTup K 3 (gCons (gName 5) (gCons (gName 7) (gCons (gName 6) gNil)))) (own := [("count", 5), ("state", 7), ("last", 6)]) hr.units rfl sc_held.nd (pi_list (pv 3)) (blkOk_by (own := [("count", 5), ("state", 7), ("last", 6)]) (N := ["ring", "memory", "copy", "whole", "store", "count", "last", "state"]) (sc := defScope (top 69)) (by decide +kernel)) (fun _ _ _ _ _ => (pg_tup rfl (pgs_cons (pg_name (i := 5) sc_held.nd rfl (Or.inl rfl)) (pgs_cons (pg_name (i := 7) sc_held.nd rfl (Or.inl rfl)) (pgs_cons (pg_name (i := 6) sc_held.nd rfl (Or.inl rfl)) pgs_nil))))) (fun _ _ _ _ _ => (pe_tup (pa_cons (pv 5) (pa_cons (pv 7) pa_nil))))) pa_nil)) pa_nil))))), ?_⟩
    have hst : EvD (tCall (sp_stores_of K) [] E0 (tCons (tVar 0) (tCons (tVar 1) (tCons (tVar 2) tNil)))) [some (.ref ring), some (.ref l), some (.int c), none, none, none, none, none] H (.tuple ((stoS mem rs.length c).map stoD)) := fun H1 k1 Q1 q1 =>
      ⟨_, rfl, _, rfl, _, rfl, ring, l, rs, e, k, c, mem, rfl, ro_.kp k1 (fun z => nomatch z), hg, k1.get hl, hm, hc, fun v H' k' t' => q1 v H' k' t'⟩
    refine sl_set (ds := ((stoS mem rs.length c).map stoD).filter tW) (el_filter (K := K) (ei_tupD hst) rfl (show 2 ≤ 100000 by decide) (fun _ => rfl) (fun _ => rfl) fun d v H1 k1 t1 m => ?_) fun a us H1 ha k1 e1 t1 => ?_
    · obtain ⟨st, _, rfl⟩ := List.mem_map.mp m
      exact et_val fun H2 k2 Q2 q2 => ⟨_, rfl, v, st, rfl, t1.kp k2, fun H3 k3 => q2 _ H3 k3 (.bl _)⟩
    · rw [stos_filter] at t1
      try dsimp only
      have h2 : ((stoS mem rs.length c).filter wholeS).length ≤ 2 := List.length_filter_le _ _
      refine retX_s (cb1_s (cb1_s ?_))
      refine scN_run (K := K) (ss := (stoS mem rs.length c).filter wholeS) e1 t1 h2 fun D L H2 hD k2 e2 hall nd mem2 len2 => ?_
      refine ⟨D, L, rfl, e2, hall, fun as p pm hp => ?_⟩
      obtain ⟨L', pl, rfl⟩ := perm_lift (fun q : Addr × PK => q.1) pm L rfl
      refine ⟨p, _, rfl, .inl ⟨SqL.of upd_same, fun z hz => ?_⟩⟩
      have k3 : Kp [] H2 (upd H2 p (.lst ((L'.map fun q => q.1).map V.ref))) := Kp.new hp
      have k4 := k3.newT (o := .tup ((L'.map fun q => q.1).map V.ref)) hz
      have kk := (k1.trans k2).trans k4
      have td : TDs (upd (upd H2 p (.lst ((L'.map fun q => q.1).map V.ref))) z (.tup ((L'.map fun q => q.1).map V.ref))) ((L'.map fun q => q.1).map V.ref) ((L'.map (·.2)).map pairD) := by
        have ha : ∀ q ∈ L', PairH (upd (upd H2 p (.lst ((L'.map fun q => q.1).map V.ref))) z (.tup ((L'.map fun q => q.1).map V.ref))) q.2 q.1 := fun q m => (hall q (pl.mem_iff.mp m)).kp k4
        generalize upd (upd H2 p (.lst ((L'.map fun q => q.1).map V.ref))) z (.tup ((L'.map fun q => q.1).map V.ref)) = H5 at ha
        clear pl pm hz k4 kk k3
        induction L' with
        | nil => exact .nil
        | cons x L' ih => exact .cons (ha x List.mem_cons_self).td (ih fun q m => ha q (List.mem_cons_of_mem _ m))
      have pl2 := pl.map (·.2)
      refine q (L'.map (·.2)) _ _ kk (pl2.nodup_iff.mpr nd) (fun x => ?_) ?_ (.tup upd_same td)
      · rw [pl2.mem_iff]
        exact mem2 x
      · rw [List.length_map, pl.length_eq]
        exact len2
end
end Sr
/-! Reading: how many copies hold a pair; the greatest that more than e hold. -/
namespace Sr
open PySem PySem.Spec PyProof.Rows L2
def cntM (mem : List Int) (n : Nat) (x : PK) : Nat → Nat
  | 0 => 0
  | c + 1 => cntM mem n x c + (if x ∈ heldL mem n c then 1 else 0)
structure Best (mem : List Int) (n k : Nat) (e : Int) (x : PK) : Prop where
  many : e < (cntM mem n x k : Int)
  top : ∀ y, e < (cntM mem n y k : Int) → ltP x y = false
theorem Best.one {mem : List Int} {n k : Nat} {e : Int} {x y : PK} (a : Best mem n k e x) (b : Best mem n k e y) : x = y := ltP_same (a.top y b.many) (b.top x a.many)
open Classical in
noncomputable def rdM (mem : List Int) (n k : Nat) (e : Int) : PyData := if h : ∃ x, Best mem n k e x then pairD h.choose else .none
theorem rdM_some {mem : List Int} {n k : Nat} {e : Int} {x : PK} (b : Best mem n k e x) : rdM mem n k e = pairD x := by
  unfold rdM
  have h : ∃ x, Best mem n k e x := ⟨x, b⟩
  rw [dif_pos h, h.choose_spec.one b]
theorem rdM_none {mem : List Int} {n k : Nat} {e : Int} (h : ∀ x, ¬ e < (cntM mem n x k : Int)) : rdM mem n k e = .none := by
  unfold rdM
  rw [dif_neg fun ⟨x, b⟩ => h x b.many]
theorem get_putN (kvs : List Cnt) (a : Addr) (k : PK) (c : Int) (x : PK) : getN (putN kvs a k c) x = if x = k then some c else getN kvs x := by
  unfold putN
  by_cases hs : (getN kvs k).isSome = true
  · rw [if_pos hs]
    have key : ∀ l : List Cnt, getN (l.map (setN1 k c)) x = if x = k then (getN l k).map fun _ => c else getN l x := by
      intro l
      induction l with
      | nil => unfold getN; split <;> rfl
      | cons p l ih =>
        unfold getN at ih ⊢
        rw [List.map_cons, List.find?_cons, List.find?_cons, List.find?_cons]
        have e1 : (setN1 k c p).2.1 = p.2.1 := by unfold setN1; split <;> rfl
        rw [e1]
        by_cases hx : p.2.1 = x
        · rw [decide_eq_true hx]
          dsimp only
          by_cases hk : x = k
          · rw [if_pos hk, decide_eq_true (hx.trans hk)]
            dsimp only
            have : (setN1 k c p).2.2 = c := by unfold setN1; rw [if_pos (hx.trans hk)]
            rw [Option.map_some, this, Option.map_some, Option.map_some]
          · rw [if_neg hk]
            have : (setN1 k c p).2.2 = p.2.2 := by unfold setN1; rw [if_neg fun z => hk (hx.symm.trans z)]
            rw [Option.map_some, this, Option.map_some]
        · rw [decide_eq_false hx]
          dsimp only
          rw [ih]
          by_cases hk : x = k
          · rw [if_pos hk, if_pos hk, decide_eq_false fun z => hx (z.trans hk.symm)]
          · rw [if_neg hk, if_neg hk]
    rw [key kvs]
    by_cases hx : x = k
    · rw [if_pos hx, if_pos hx]
      obtain ⟨v, hv⟩ := Option.isSome_iff_exists.mp hs
      rw [hv]
      rfl
    · rw [if_neg hx, if_neg hx]
  · rw [if_neg hs]
    have hn : getN kvs k = none := by simpa using hs
    unfold getN at hn ⊢
    rw [List.find?_append]
    rw [Option.map_eq_none_iff] at hn
    by_cases hx : x = k
    · subst hx
      rw [hn, if_pos rfl]
      simp
    · rw [if_neg hx]
      have : ([(a, k, c)] : List Cnt).find? (fun p => decide (p.2.1 = x)) = none := by
        rw [List.find?_cons, decide_eq_false (show ¬ k = x from fun z => hx z.symm)]
        rfl
      rw [this, Option.or_none]
theorem getN_mem {kvs : List Cnt} {x : PK} {c : Int} (h : getN kvs x = some c) : ∃ a, (a, x, c) ∈ kvs := by
  unfold getN at h
  obtain ⟨p, hp, e⟩ := Option.map_eq_some_iff.mp h
  have h1 := List.mem_of_find?_eq_some hp
  have h2 := List.find?_some hp
  have h3 : p.2.1 = x := by simpa using h2
  refine ⟨p.1, ?_⟩
  rw [← h3, ← e]
  exact h1
theorem mem_getN {kvs : List Cnt} (nd : (kvs.map (·.2.1)).Nodup) {p : Cnt} (h : p ∈ kvs) : getN kvs p.2.1 = some p.2.2 := by
  induction kvs with
  | nil => cases h
  | cons q kvs ih =>
    rw [List.map_cons, List.nodup_cons] at nd
    unfold getN at ih ⊢
    rw [List.find?_cons]
    rcases List.mem_cons.mp h with rfl | h
    · rw [decide_eq_true rfl]
      rfl
    · rw [decide_eq_false fun z => nd.1 (by rw [z]; exact List.mem_map.mpr ⟨p, h, rfl⟩)]
      exact ih nd.2 h
end Sr
/-! Reading: the walk. -/
namespace Sr
open PySem PySem.Spec PyProof.Rows L2
theorem for_cps {K : PySem.W.Frag} {te : TE} {g : TG} {tb : TS} {D : Ends} {σ : L2.St} {H : Hp} (h : te σ H fun v H1 => tFor (iTup K (tC v)) g tb D σ H1) : tFor (iTup K te) g tb D σ H := h
theorem cbk_s {r : List V → List V → Hp → VK → Prop} {te tk : TE} {σ : L2.St} {H : Hp} {Q : VK} (h : te σ H fun v H1 => tk σ H1 fun z H2 => r [v] [z] H2 Q) : tCKw r (tCons te tNil) (tCons tk tNil) σ H Q := h
section
variable {P : Program} {w : World} {K : PySem.W.Frag} {mg : Str → Option Value} {base : Heap} {f : Addr} {fd : FuncData}
abbrev s_reading : Stmt := top 70
theorem sc_reading : FnScope ["ring", "memory", "copies_by_pair", "copy", "pair", "copies"] ["ring", "memory"] (defScope s_reading) := ⟨rfl, rfl, rfl, by decide +kernel, rfl, by decide +kernel, by decide +kernel⟩
/-- the keys whose number is above e -/
theorem itn_filter {H : Hp} {Q : VK} {d : Addr} {kvs : List Cnt} {es : Array DictEntry} {ep : Nat} {e : Int} {tt : TT} {o0 o1 o3 o4 o5 : Option V} (hd : H d = some (DicO P w d kvs es ep)) (hn : kvs.length ≤ 1000)
    (ht : ∀ (a : V) (c : Int) (H1 : Hp), Kp [] H H1 → EvT tt [o0, o1, some (.ref d), o3, some a, some (.int c)] H1 (decide (e < c)))
    (q : ∀ D H', H D = none → Kp [] H H' → H' D = some (.lst ((kvs.filter fun p => decide (e < p.2.2)).map fun p => V.ref p.1)) → Q (.ref D) H') :
    tLc (iItemsN P w (tVar 2)) (gTup K 2 (gCons (gName 4) (gCons (gName 5) gNil))) tt (tVar 4) [4, 5] [o0, o1, some (.ref d), o3, o4, o5] H Q := by
  refine ⟨_, rfl, d, kvs, es, ep, rfl, hd, fun D hD => ?_⟩
  refine lc_it walk_itn (fun i H' => Kp [] H H' ∧ H' D = some (.lst (((kvs.take i).filter fun p => decide (e < p.2.2)).map fun p => V.ref p.1))) ⟨Kp.new hD, upd_same⟩ (fun i H' _ ⟨k, _⟩ => k.get hd) (fun i x H1 H2 hi ⟨k, e1⟩ y => ?_) fun H' ⟨k, e1⟩ => ?_
  · obtain ⟨T, p, hp, rfl, hT, rfl⟩ := y
    have k2 : Kp [] H1 (upd H1 T (.tup [.ref p.1, .int p.2.2])) := Kp.new hT
    refine ⟨T, _, rfl, SqT.of upd_same, rfl, ⟨_, _, rfl, ⟨_, _, rfl, ⟨rfl, rfl, ?_⟩⟩⟩⟩
    have etk : kvs.take (i + 1) = kvs.take i ++ [p] := by rw [List.take_add_one, hp]; rfl
    refine ht (.ref p.1) p.2.2 _ (k.trans k2) _ (Kp.refl _ _) _ fun H4 k4 => ?_
    have k24 := k2.trans k4
    have e4 := k24.get e1
    by_cases hc : e < p.2.2
    · rw [decide_eq_true hc]
      refine iteT ⟨.ref p.1, rfl, _, e4, ?_, (k.trans k24).chg hD, ?_⟩
      · refine lt_line ?_
        rw [List.length_map]
        have := List.length_filter_le (fun p : Cnt => decide (e < p.2.2)) (kvs.take i)
        rw [List.length_take] at this
        omega
      · rw [upd_same, etk, List.filter_append, List.map_append]
        simp [hc]
    · rw [decide_eq_false hc]
      refine iteF ⟨k.trans k24, ?_⟩
      rw [e4, etk, List.filter_append, List.map_append]
      simp [hc]
  · rw [List.take_length] at e1
    exact q D H' hD k e1
def sp_reading (K : PySem.W.Frag) : Sp := fun vs H Q _ => ∃ (ring l : Addr) (rs : List Rec) (e : Int) (k : Nat) (mem : List Int), vs = [.ref ring, .ref l] ∧ RingO H (cR K) ring rs e k ∧ RingG rs e k ∧ H l = some (.lst (mem.map V.int)) ∧ (mem.length : Int) = wordsN rs k ∧
  ∀ v H', Kp [] H H' → TD H' v (rdM mem rs.length k e) → Q v H'
structure Cnts (P : Program) (w : World) (H H' : Hp) (d : Addr) (kvs : List Cnt) (es : Array DictEntry) (ep : Nat) (f : PK → Nat) : Prop where
  kp : Kp [d] H H'
  at_ : H' d = some (DicO P w d kvs es ep)
  all : ∀ p ∈ kvs, PairH H' p.2.1 p.1
  nd : (kvs.map (·.2.1)).Nodup
  num : ∀ x, (getN kvs x).getD 0 = (f x : Int)
theorem ok_reading (F : At K mg "reading" "reading" s_reading ["ring", "memory"] f fd) (T : Txt K mg) (p_copies : GP P w K mg base 1 (cR K) "copies" (sp_Rn (cR K) fun _ _ k => k)) (p_faults : GP P w K mg base 1 (cR K) "faults" (sp_Rn (cR K) fun _ e _ => e))
    (g_held : GF P w K mg base 4 "held" ["ring", "memory", "copy"] (sp_held K)) : FnOk P w K mg base CX0 5 f fd ["ring", "memory"] (sp_reading K) := by
  refine F.fn.ok sc_reading (fun vs H Q E h => ?_) (fun cdv A0 outer s H vs Q E hr h => ?_)
  · obtain ⟨ring, l, rs, e, k, mem, rfl, _⟩ := h
    rfl
  · obtain ⟨ring, l, rs, e, k, mem, rfl, ro_, hg, hl, hm, q⟩ := h
    refine ⟨_, (pss_cons (ps_set (i := 2) sc_reading.nd rfl (Or.inl rfl) pe_dnewN)
      (pss_cons (ps_for PassesOwn.never rfl (pi_range1 rfl T.f_range (pa_cons (pe_gp p_copies (hr.mono (by decide)) (pv 0)) pa_nil)) (pg_name (i := 3) sc_reading.nd rfl (Or.inl rfl)) (pss_one (ps_for PassesOwn.never rfl (pi_tup (pe_gf g_held (hr.mono (by decide)) rfl (pa_cons (pv 0) (pa_cons (pv 1) (pa_cons (pv 3) pa_nil))))) (pg_name (i := 4) sc_reading.nd rfl (Or.inl rfl)) (pss_one (ps_putN hr.units (pv 2) (pv 4) (pe_op op_add (pe_getN hr.units (pv 2) (pv 4) pe_int ⟨rfl, rfl, rfl, rfl⟩) pe_int) rfl)))))
      (pss_one (ps_ret (pe_callBK (cr_maxN rfl hr.units) rfl T.f_max (by decide +kernel) (pa_cons (pe_lc (own := [("pair", 4), ("copies", 5)]) (g := gTup K 2 (gCons (gName 4) (gCons (gName 5) gNil))) rfl sc_reading.nd (pi_itemsN (pv 2)) (blkOk_by (own := [("pair", 4), ("copies", 5)]) (N := ["ring", "memory", "copies_by_pair", "copy", "pair", "copies"]) (sc := defScope (top 70)) (by decide +kernel)) (fun _ _ _ _ _ => (pg_tup rfl (pgs_cons (pg_name (i := 4) sc_reading.nd rfl (Or.inl rfl)) (pgs_cons (pg_name (i := 5) sc_reading.nd rfl (Or.inl rfl)) pgs_nil)))) (fun _ _ _ _ _ => (pts_one (pt_cmpR op_gt (pv 5) (pe_gp p_faults (hr.mono (by decide)) (pv 0)) (nomark _)))) (fun _ _ _ _ _ => (pv 4))) pa_nil) (pk_cons pe_non pk_nil)))))), ?_⟩
    have hgk := hg.k
    refine seq_s (asg_s fun d hd => ?_)
    have kd : Kp [] H (upd H d (DicO P w d [] #[] 0)) := Kp.new hd
    try dsimp only
    refine seq_s ?_
    refine st_for (ei_range (n := k) (ed_Rn (ev_var rfl) (ro_.kp kd fun z => nomatch z) hg) rfl (by omega)) fun H2 k2 => ?_
    refine ⟨fun i σ' H' => ∃ o3 o4 o5 kvs es ep, σ' = [some (.ref ring), some (.ref l), some (.ref d), o3, o4, o5] ∧ kvs.length ≤ 2 * i ∧ Cnts P w H2 H' d kvs es ep fun x => cntM mem rs.length x i, ?_, ?_, ?_, ?_⟩
    · exact ⟨_, _, _, [], #[], 0, rfl, Nat.zero_le _, ⟨Kp.refl _ _, k2.get upd_same, (fun p m => nomatch (show p ∈ ([] : List Cnt) from m)), List.nodup_nil, fun x => rfl⟩⟩
    · rintro i σ' H' ⟨_, _, _, _, _, _, _, _, c⟩
      exact ⟨[d], c.kp, fun _ m => nomatch m⟩
    · rintro i x σ' H1 H1' hi ⟨o3, o4, o5, kvs, es, ep, rfl, hlen, c⟩ y
      obtain ⟨rfl, rfl⟩ := y
      have kH : Kp [] H H1' := (kd.trans k2).thenM c.kp fun b m => .inr (by rw [List.mem_singleton.mp m]; exact hd)
      refine for_cps (K := K) ?_
      refine ⟨_, rfl, _, rfl, _, rfl, ring, l, rs, e, k, i, mem, ?_, ro_.kp kH (fun z => nomatch z), hg, kH.get hl, hm, hi, fun ks v H4 k4 nd4 mem4 len4 t4 => ?_⟩
      · show [V.ref ring, V.ref l, V.int (0 + (i : Int))] = _
        rw [Int.zero_add]
      refine st_forF (ei_tupD (ed_v ev_c t4)) fun H5 k5 => ?_
      refine ⟨fun j σ5 H6 => ∃ o4 o5 kvs es ep, σ5 = [some (.ref ring), some (.ref l), some (.ref d), some (.int (0 + (i : Int))), o4, o5] ∧ kvs.length ≤ 2 * i + j ∧ Cnts P w H5 H6 d kvs es ep fun x => cntM mem rs.length x i + (if x ∈ ks.take j then 1 else 0), ?_, ?_, ?_, ?_⟩
      · refine ⟨_, _, kvs, es, ep, rfl, hlen, ⟨Kp.refl _ _, (k4.trans k5).get c.at_, fun p m => ((c.all p m).kp k4).kp k5, c.nd, fun x => ?_⟩⟩
        rw [c.num x, List.take_zero, if_neg (fun z => nomatch z)]
        rfl
      · rintro j σ5 H6 ⟨_, _, _, _, _, _, _, c6⟩
        exact ⟨[d], c6.kp, fun b m => by rw [List.mem_singleton.mp m]; exact ⟨_, k4.get c.at_⟩⟩
      · rintro j x σ5 H6 H6' hj ⟨o4, o5, kvs6, es6, ep6, rfl, hlen6, c6⟩ y
        obtain ⟨rfl, dd, hdd, td⟩ := y
        rw [List.getElem?_map] at hdd
        obtain ⟨kx, hkx, rfl⟩ := Option.map_eq_some_iff.mp hdd
        obtain ⟨b, rfl, hk⟩ := pairH_of td
        have kD : ∀ o, Kp [d] H6' (upd H6' d (.ext o)) := fun o => Kp.put (List.mem_singleton.mpr rfl) c6.at_ fun xs z => HO.noConfusion z
        have hjl : j < ks.length := (List.getElem?_eq_some_iff.mp hkx).1
        refine ⟨_, rfl, d, kvs6, es6, ep6, rfl, c6.at_, ⟨_, rfl, kvs6, es6, ep6, b, kx, 0, c6.at_, rfl, hk, c6.all, rfl, ⟨_, _, rfl, rfl, ⟨_, rfl, ⟨_, rfl, d, kvs6, es6, ep6, b, kx, _, rfl, c6.at_, rfl, hk, c6.all, rfl, ?_, fun es' ep' => ?_⟩⟩⟩⟩⟩
        · omega
        refine ⟨_, _, _, es', ep', rfl, ?_, ⟨c6.kp.trans (kD _), upd_same, fun p m => ?_, putN_nd c6.nd _ _ _, fun x => ?_⟩⟩
        · have := putN_len (kvs := kvs6) b kx ((getN kvs6 kx).getD 0 + 1)
          omega
        · rcases putN_mem m with ⟨q, hq, e1, e2⟩ | ⟨e1, e2⟩
          · rw [← e1, ← e2]
            exact (c6.all q hq).kp (kD _)
          · rw [e1, e2]
            exact hk.kp (kD _)
        · have etk : ks.take (j + 1) = ks.take j ++ [kx] := by rw [List.take_add_one, hkx]; rfl
          have nin : kx ∉ ks.take j := fun m => by
            have nd5 : (ks.take (j + 1)).Nodup := nd4.sublist (List.take_sublist _ _)
            rw [etk, List.nodup_append] at nd5
            exact nd5.2.2 kx m kx (List.mem_singleton.mpr rfl) rfl
          rw [get_putN]
          by_cases hx : x = kx
          · subst hx
            rw [if_pos rfl, Option.getD_some, c6.num x, if_neg nin, etk, if_pos (List.mem_append_right _ (List.mem_singleton.mpr rfl))]
            omega
          · rw [if_neg hx, c6.num x, etk]
            have : x ∈ ks.take j ++ [kx] ↔ x ∈ ks.take j := by simp [hx]
            simp only [this]
      · rintro σ5 H6 ⟨o4, o5, kvs6, es6, ep6, rfl, hlen6, c6⟩
        rw [List.length_map] at hlen6 c6
        refine ⟨_, _, _, kvs6, es6, ep6, rfl, by omega, ⟨c.kp.trans (k4.wid.trans (k5.wid.trans c6.kp)), c6.at_, c6.all, c6.nd, fun x => ?_⟩⟩
        rw [c6.num x, List.take_length]
        show _ = ((cntM mem rs.length x i + (if x ∈ heldL mem rs.length i then 1 else 0) : Nat) : Int)
        simp only [mem4 x]
    · rintro σ' H' ⟨o3, o4, o5, kvs, es, ep, rfl, hlen, c⟩
      have kH : Kp [] H H' := (kd.trans k2).thenM c.kp fun b m => .inr (by rw [List.mem_singleton.mp m]; exact hd)
      dsimp only
      refine retX_s (cbk_s ?_)
      refine itn_filter (e := e) c.at_ (by omega) (fun a cc H1 k1 => et_gt (ed_var rfl (.int _)) (ed_Rn (ev_var rfl) ((ro_.kp kH fun z => nomatch z).kp k1 fun z => nomatch z) hg)) fun D H3 hD k3 eD => ?_
      have kF := kH.trans k3
      have he0 := hg.e.1
      refine ⟨D, (kvs.filter fun p => decide (e < p.2.2)).map fun p => (p.1, p.2.1), rfl, rfl, by rw [eD, List.map_map]; rfl, fun r m => ?_, fun z => ?_, fun r m top => ?_⟩
      · obtain ⟨p, hp, rfl⟩ := List.mem_map.mp m
        exact (c.all p (List.mem_filter.mp hp).1).kp k3
      · refine q _ _ kF ?_
        rw [rdM_none fun x hx => ?_]
        · exact .non
        · rw [← c.num x] at hx
          cases g : getN kvs x with
          | none => rw [g] at hx; simp at hx; omega
          | some v =>
            rw [g] at hx
            obtain ⟨a, ha⟩ := getN_mem g
            have : (a, x) ∈ (kvs.filter fun p => decide (e < p.2.2)).map fun p => (p.1, p.2.1) := List.mem_map.mpr ⟨_, List.mem_filter.mpr ⟨ha, by simpa using hx⟩, rfl⟩
            rw [z] at this
            cases this
      · obtain ⟨p, hp, rfl⟩ := List.mem_map.mp m
        obtain ⟨hp1, hp2⟩ := List.mem_filter.mp hp
        have hb : Best mem rs.length k e p.2.1 := ⟨by
          rw [← c.num p.2.1, mem_getN c.nd hp1]
          simpa using hp2, fun y hy => by
          rw [← c.num y] at hy
          cases g : getN kvs y with
          | none => rw [g] at hy; simp at hy; omega
          | some v =>
            rw [g] at hy
            obtain ⟨a, ha⟩ := getN_mem g
            exact top (a, y) (List.mem_map.mpr ⟨_, List.mem_filter.mpr ⟨ha, by simpa using hy⟩, rfl⟩)⟩
        refine q _ _ kF ?_
        rw [rdM_some hb]
        exact ((c.all p hp1).kp k3).td
end
end Sr
/-! Machine: its attribute reading. -/
namespace Sr
open PySem PySem.Spec PyProof.Rows L2
noncomputable def rdF : RdF := fun rs e k ms => rdM ms.mem rs.length k e
theorem cntM_pos {mem : List Int} {n : Nat} {x : PK} : ∀ {k : Nat}, 0 < cntM mem n x k → ∃ c, x ∈ heldL mem n c
  | 0, h => absurd h (Nat.lt_irrefl _)
  | k + 1, h => by
    by_cases hx : x ∈ heldL mem n k
    · exact ⟨k, hx⟩
    · unfold cntM at h
      rw [if_neg hx] at h
      exact cntM_pos h
theorem stoS_ok {mem : List Int} {n c : Nat} {s : Sto} (h : ∀ x ∈ mem, wOk x) (m : s ∈ stoS mem n c) : wOk s.1 ∧ (∀ x ∈ s.2.1, wOk x) ∧ s.2.1.length ≤ n := by
  have key : ∀ a : Int, wOk (stoA mem a n).1 ∧ (∀ x ∈ (stoA mem a n).2.1, wOk x) ∧ (stoA mem a n).2.1.length ≤ n := fun a => by
    obtain ⟨h1, h2, _⟩ := stoA_ok (a := a) (n := n) h
    refine ⟨h1, h2, ?_⟩
    show (sliceI mem (a + 1) n).length ≤ n
    unfold sliceI
    rw [List.length_take]
    omega
  unfold stoS at m
  rcases List.mem_cons.mp m with rfl | m
  · exact key _
  · rw [List.mem_singleton.mp m]
    exact key _
theorem rdF_sho (rs : List Rec) (e : Int) (k : Nat) (ms : MS) (hg : RingG rs e k) (ok : MSok (wordsN rs k) (ringR rs e k).length ms) : Sho 2 65000 (rdF rs e k ms) := by
  unfold rdF rdM
  split
  · rename_i h
    have b := h.choose_spec
    generalize h.choose = x at b
    have he := hg.e.1
    have hn := hg.rs.1
    have hm := b.many
    obtain ⟨c, hc⟩ := cntM_pos (show 0 < cntM ms.mem rs.length x k by omega)
    obtain ⟨s, hs, rfl⟩ := List.mem_map.mp hc
    obtain ⟨h1, h2, h3⟩ := stoS_ok ok.mw (List.mem_filter.mp hs).1
    have w12 : ∀ y : Int, wOk y → y.natAbs < 10 ^ 12 := fun y hy => by
      unfold wOk at hy
      omega
    refine Sho.tup (n := 1) (m := 1000) (fun d m => ?_) (by show (1000 + 1) * 2 ≤ 65000; decide)
    rcases List.mem_cons.mp m with rfl | m
    · exact (Sho.int (n := 1) (w12 _ h1)).mono (Nat.le_refl _) (by decide)
    · rw [List.mem_singleton.mp m]
      refine Sho.tup (n := 0) (m := 64) (fun d m => ?_) ?_
      · obtain ⟨y, hy, rfl⟩ := List.mem_map.mp m
        exact .int (w12 _ (h2 y hy))
      · rw [List.length_map]
        have hl : (keyS s).2.length ≤ rs.length := h3
        have : (64 + 1) * (keyS s).2.length ≤ 65 * 4 := Nat.mul_le_mul (Nat.le_refl _) (by omega)
        omega
  · exact Sho.none
theorem call2_s {sp : Sp} {E : XK} {ta tb : TE} {σ : L2.St} {H : Hp} {Q : VK} (h : ta σ H fun v H1 => tb σ H1 fun u H2 => sp [v, u] H2 Q E) : tCall sp [] E (tCons ta (tCons tb tNil)) σ H Q := h
section
variable {P : Program} {w : World} {K : PySem.W.Frag} {mg : Str → Option Value} {base : Heap} {f : Addr} {fd : FuncData}
abbrev s_Machine_reading : Stmt := inClass (top 73) 6
theorem sc_Machine_reading : FnScope ["self"] ["self"] (defScope s_Machine_reading) := ⟨rfl, rfl, rfl, by decide +kernel, rfl, by decide +kernel, by decide +kernel⟩
theorem ok_Machine_reading {C : Addr} (F : Fun K "reading" "Machine.reading" s_Machine_reading f fd) (T : Txt K mg) (R : MachT K C) (g_reading_reading : GF P w K mg base 5 "reading_reading" ["ring", "memory"] (sp_reading K)) : FnOk P w K mg base CX0 8 f fd ["self"] (sp_MD K C rdF) := by
  refine FnOk.mono (F.ok (k := 5) sc_Machine_reading (fun vs H Q E h => ?_) (fun cdv A0 outer s H vs Q E hr h => ?_)) (by decide)
  · obtain ⟨p, ring, M, G, A, rs, e, k, ms, st, rfl, _⟩ := h
    rfl
  · obtain ⟨p, ring, M, G, A, rs, e, k, ms, st, rfl, m, q⟩ := h
    refine ⟨_, (pss_one (ps_ret (pe_gf g_reading_reading (hr.mono (by decide)) rfl (pa_cons (pe_fldK (K := K) (pv 0) rfl) (pa_cons (pe_fldK (K := K) (pv 0) rfl) pa_nil))))), ?_⟩
    obtain ⟨tl, mi, _⟩ := m.ex
    obtain ⟨dx, w, ep, l1, l2, l3, l4, l5, l6, l7⟩ := mfield mi.o
    refine retX_s (call2_s ?_)
    refine (ev_fld (K := K) (ev_var rfl) ep R.cl R.na_ring_executed l1) H (Kp.refl _ _) _ fun H1 k1 => ?_
    refine (ev_fld (K := K) (ev_var rfl) ep R.cl R.na_memory_words l2) H1 k1 _ fun H2 k2 => ?_
    have kk := k1.trans k2
    exact ⟨ring, M, rs, e, k, ms.mem, rfl, mi.o.hR.kp kk (fun z => nomatch z), mi.g, kk.get mi.o.hM, mi.ok.ml, fun v H3 k3 t3 => q v H3 (kk.trans k3) t3⟩
end
end Sr
/-! A generator that is woken by a comprehension: what changes while it sleeps; its for. -/
namespace Sr
open PySem PySem.Spec PyProof.Rows L2 GenW
/-- asleep: only what stands at Z changes -/
structure Sleeps (Z : List Addr) (s s' : Shared) : Prop where
  os : s'.os = s.os
  bare : AllBare s'.gens
  keep : ∀ b o, b ∉ Z → s.heap.get? b = some o → s'.heap.get? b = some o
  own : ∀ b ∈ Z, ∃ o, s'.heap.get? b = some o ∧ ∀ v, o.data ≠ .cell v
/-- the consumer's own objects: none of the generator's frame's -/
structure AwayZ (X : Cx) (Z : List Addr) : Prop where
  pn : ∀ p ∈ X.pn, p.1 ∉ Z
  at_ : ∀ b ∈ Z, X.s_0.heap.objs.size ≤ b ∧ b ≠ X.env.locals ∧ ∀ x c, X.env.cells.lookup x = some c → c ≠ b
/-- woken again -/
theorem woken {X : Cx} {Z : List Addr} {ip : List (Addr × Obj)} {σ : L2.St} {H : Hp} {h0 : Heap} {s s' : Shared} (aw : AwayZ X Z) (hip : ∀ p ∈ ip, p.1 ∉ Z) (hst : ∀ b ∈ Z, ∃ o, h0.get? b = some o ∧ ∀ v, o.data ≠ .cell v)
    (I : Inv X (pinsAt Z h0 ++ ip) σ H s) (z : Sleeps Z s s') : Inv X (pinsAt Z s'.heap ++ ip) σ H s' := by
  have pz : ∀ b ∈ Z, H b = none ∧ b ≠ X.env.locals ∧ b ∉ X.fs := fun b hb => by
    obtain ⟨o, ho, _⟩ := hst b hb
    obtain ⟨_, h2, h3, h4, _⟩ := I.pin (b, o) (List.mem_append_right _ (List.mem_append_left _ (mem_pinsAt hb ho)))
    exact ⟨h2, h3, h4⟩
  have I0 : Inv X ip σ H s := I.pins_of fun p m => I.pin p (List.mem_append_right _ (List.mem_append_right _ m))
  have nt : ∀ b u, H b = some u → b ∉ Z := fun b u e m => by rw [(pz b m).1] at e; cases e
  obtain ⟨z1, z2, z3, z4⟩ := z
  obtain ⟨hh, g, d, t, o⟩ := s'
  have ho : o = s.os := z1
  subst ho
  have J : Inv X ip σ H { s with heap := hh, gens := g, drawn := d, toks := t } := by
    refine I0.step (g' := g) (t' := t) (d' := d) (ch := Z) (fun b hb => ?_) (fun b ob _ _ hc e _ => z3 b ob hc e) (fun b ob _ _ hc e _ => ⟨ob.slots, z3 b ob hc e⟩) (fun _ _ _ _ n => n) (fun b ob hc e => ⟨ob, z3 b ob hc e⟩)
      (fun _ _ e => e) (fun _ _ _ e => e) (fun b ps e => ⟨#[], by rw [e]; simp⟩) (fun m hm => ?_) (fun b u e => ?_) z2
    · obtain ⟨a1, a2, a3⟩ := aw.at_ b hb
      refine ⟨.inr a1, a2, a3, fun p hp e => ?_⟩
      rcases List.mem_append.mp hp with hp | hp
      · exact aw.pn p hp (by rw [e]; exact hb)
      · exact hip p hp (by rw [e]; exact hb)
    · obtain ⟨ob, es, ep, he, r⟩ := hm
      exact ⟨ob, es, ep, z3 _ ob (fun m => (pz _ m).2.1 rfl) he, r⟩
    · refine (I0.hok b u e).stay (fun c v hc y => z3 c v ?_ y) (fun _ y => y) fun _ _ y => y
      rcases hc with y | y
      · rw [y]; exact nt b u e
      · exact nt c _ y
  refine J.pins_of fun p hp => ?_
  rcases List.mem_append.mp hp with hp | hp
  · obtain ⟨hb, e⟩ := of_pinsAt hp
    obtain ⟨p1, p2, p3⟩ := pz p.1 hb
    obtain ⟨o', e', nc⟩ := z4 p.1 hb
    have e2 : hh.get? p.1 = some p.2 := e
    have e3 : hh.get? p.1 = some o' := e'
    rw [e2] at e3
    cases e3
    exact ⟨e2, p1, p2, p3, nc⟩
  · exact J.pin p (List.mem_append_right _ hp)

/-! ### the for of a generator, one step at a time -/
abbrev forRet (env : Env) (K : Flow → Sem PySem.Fin) (J : Value → Sem PySem.Fin) (gd : Bool → Bool) (lv : List Value → List Value) (c : Code) (p : Pos) : Frame :=
  .ret (fun r => ((match r with | .ok f => (.pure f : Sem Flow) | .error e => .raise e).onRaise (L2.cameBack env)).wrap K J gd lv) none (gd false) (lv []) c p []
theorem segFor {M : Model} {A : Around} {R : GenEnd} {Y : Protocol} {n : Nat} {s₀ s : Shared} {c : Code} {fs : List Frame} {env : Env} {K : Flow → Sem PySem.Fin} {J : Value → Sem PySem.Fin} {gd : Bool → Bool} {lv : List Value → List Value} {target iter : Expr} {body : List Stmt} {pos : Pos}
    (hs : ∀ x, foldedSetIterable iter env x = pure x)
    (h : wpAny M (A.over c fs) (eval iter env) (fun x s1 => wpAny M (A.over c fs) (pyIter x) (fun it s2 => ∀ p, Seg M A R Y n s₀ (.forLoop target it body [] env) (M.den (.forLoop target it body [] env)) (forRet env K J gd lv c p :: fs) s2) (fun _ _ => False) s1) (fun _ _ => False) s) :
    Seg M A R Y n s₀ c ((PySem.exec (.For target iter body [] pos) env).wrap K J gd lv) fs s := by
  rw [exec_For]
  refine seg_bind_wrap (wpAny_standAt ?_)
  refine seg_bind_wrap (wpAny_mono h (fun x s1 h1 => ?_) fun _ _ z => z.elim)
  refine seg_bind_wrap (wpAny_of_eq (hs x) ?_)
  refine seg_bind_wrap (wpAny_standAt ?_)
  refine seg_bind_wrap (wpAny_holding (wpAny_mono h1 (fun it s2 h2 => ?_) fun _ _ z => z.elim))
  exact seg_call h2
def noteUp (env : Env) (e : Value) : Sem PySem.Fin := (do noteFrame e env; theTreesLotGoes e : Sem Unit).wrap (fun _ => .raise e) .raise id id
theorem segTurn {prog : Program} {w : World} {A : Around} {R : GenEnd} {Y : Protocol} {n : Nat} {s₀ s : Shared} {fs : List Frame} {env : Env} {target : Expr} {it : Value} {body : List Stmt} (ht : ∀ v, letOwnedTupleGo target it v = pure ())
    (h : wpAny (model prog w) (A.over (.forLoop target it body [] env) fs) (pyNext it) (fun r s1 => match r with
      | none => Seg (model prog w) A R Y n s₀ (.block [] env) ((model prog w).den (.block [] env)) fs s1
      | some v => wpAny (model prog w) (A.over (.forLoop target it body [] env) fs) (assign target env v) (fun _ s2 => Seg (model prog w) A R Y n s₀ (.forLoop target it body [] env) ((execs body env).wrap (fun f => match f with
          | .next | .cont => .pure (.again (.forLoop target it body [] env))
          | .brk => .pure (.done .next)
          | .ret v => .pure (.done (.ret v))) (noteUp env) id id) fs s2) (fun _ _ => False) s1) (fun _ _ => False) s) :
    Seg (model prog w) A R Y n s₀ (.forLoop target it body [] env) ((model prog w).den (.forLoop target it body [] env)) fs s := by
  show Seg _ A R Y n s₀ _ ((forTurn target it body [] env).onRaise (fun x => do noteFrame x env; theTreesLotGoes x)) fs s
  rw [Sem.onRaise_eq_wrap]
  unfold forTurn
  refine seg_bind_wrap (wpAny_standAt ?_)
  refine seg_bind_wrap (wpAny_onRaise (wpAny_mono h (fun r s1 h1 => ?_) fun _ _ z => z.elim))
  cases r with
  | none => exact seg_again rfl h1
  | some v =>
    refine seg_bind_wrap (wpAny_of_eq (ht v) ?_)
    refine seg_bind_wrap (wpAny_mono h1 (fun _ s2 h2 => ?_) fun _ _ z => z.elim)
    rw [Sem.bind_eq_wrap', Sem.wrap_wrap]
    rw [Sem.wrap_congr (execs body env) _ _ (K' := fun f => match f with
      | .next | .cont => .pure (.again (.forLoop target it body [] env))
      | .brk => .pure (.done .next)
      | .ret v => .pure (.done (.ret v))) (H' := noteUp env) (fun f => by cases f <;> rfl)
      (fun e => by first | exact Sem.bind_eq_wrap _ _ | (show (do noteFrame e env; theTreesLotGoes e : Sem Unit).bind (fun _ => .raise e) = _; rw [Sem.bind_eq_wrap]; rfl))]
    exact h2
theorem segOver {M : Model} {A : Around} {R : GenEnd} {Y : Protocol} {n : Nat} {s₀ s : Shared} {c : Code} {fs : List Frame} {env : Env} {K : Flow → Sem PySem.Fin} {J : Value → Sem PySem.Fin} {gd : Bool → Bool} {lv : List Value → List Value} {p : Pos} {prog : Program} {w : World} (hM : M = model prog w)
    (h : Seg M A R Y n s₀ c (K .next) fs s) : Seg M A R Y n s₀ (.block [] env) (M.den (.block [] env)) (forRet env K J gd lv c p :: fs) s := by
  subst hM
  show Seg _ A R Y n s₀ _ (((execs [] env).onRaise (fun x => do noteFrame x env; theTreesLotGoes x)) >>= fun f => pure (.done f)) _ _
  exact seg_leaf (.ok .next) h
end Sr
/-! The walk of such a for, whose turns each hand out one value. -/
namespace Sr
open PySem PySem.Spec PyProof.Rows L2 GenW
/-- for .. in ..: a; b; yield e: N turns, the i-th hands out f i -/
def tForY (wi : TI) (g : TG) (ta tb : TS) (te : TE) (f : Nat → V) (N : Nat) (Dn : Hp → Prop) (σ : L2.St) (H : Hp) : Prop := wi σ H fun J H1 => ∃ W : Nat → L2.St → Hp → Prop, W 0 σ H1 ∧ ∀ i σ1 H2, W i σ1 H2 →
  (i = N → J.stop i H2 ∧ Dn H2) ∧ (i < N → J.go i H2 ∧ ∀ x H3, J.yld i H2 x H3 → g x σ1 H3 fun σ2 H4 => ta { nx := fun σ3 H5 => tb { nx := fun σ4 H6 => te σ4 H6 fun y H7 => y = f i ∧ W (i + 1) σ4 H7, rt := fun _ _ => False } σ3 H5, rt := fun _ _ => False } σ2 H4)
section
variable {X : Cx}
theorem seg_walk {A : Around} {R : GenEnd} {Y : Protocol} {Z : List Addr} {N : Nat} {f : Nat → V} {Dn : Hp → Prop} {tg iter e : Expr} {a b : Stmt} {yp pos pos2 : Pos} {wi : TI} {g : TG} {ta tb : TS} {te : TE} {c : Code} {fs : List Frame} {K : Flow → Sem PySem.Fin} {J : Value → Sem PySem.Fin} {gd : Bool → Bool} {lv : List Value → List Value} {s₀ s : Shared} {σ : L2.St} {H : Hp}
    (hxe : X.xe = fun _ _ => False) (hc : X.calm = true) (aw : AwayZ X Z) (hov : A.over c fs = X.A) (hsp : splitAtGen fs = none) (hgu : fs.any Frame.guarded = false) (hgd : gd false = false)
    (hi : PI X tg iter wi) (hg : PG X tg g) (ha : PS X a ta) (hb : PS X b tb) (he : PE X e te) (hs : ∀ x, foldedSetIterable iter X.env x = pure x) (htg : ∀ it v, letOwnedTupleGo tg it v = pure ()) (hco : X.env.scope.isCoroutine = false) (hin : interactive X.env = false)
    (hY : ∀ (n i : Nat) (s₀ : Shared) (v : Value) (s' : Shared) (σ' : L2.St) (H' : Hp) (ip : List (Addr × Obj)) (kap : Resume → Shared → Prop), n + 1 + i = N → RelV (f i) v → (∀ b ∈ Z, ∃ o, s₀.heap.get? b = some o ∧ ∀ v, o.data ≠ .cell v) → Inv X (pinsAt Z s₀.heap ++ ip) σ' H' s' → (∀ s'', Sleeps Z s' s'' → kap (.send .none) s'') → Y n s₀ v s' kap)
    (hend : ∀ (s₀ s' : Shared) (σ' : L2.St) (H' : Hp), (∀ b ∈ Z, ∃ o, s₀.heap.get? b = some o ∧ ∀ v, o.data ≠ .cell v) → Inv X (pinsAt Z s₀.heap) σ' H' s' → Dn H' → Seg (model X.prog X.w) A R Y 0 s₀ c (K .next) fs s')
    (hst : ∀ b ∈ Z, ∃ o, s₀.heap.get? b = some o ∧ ∀ v, o.data ≠ .cell v) (I : Inv X (pinsAt Z s₀.heap) σ H s) (h : tForY wi g ta tb te f N Dn σ H) :
    Seg (model X.prog X.w) A R Y N s₀ c ((PySem.exec (.For tg iter [a, b, .Expr (.Yield (some e) yp) pos2] [] pos) X.env).wrap K J gd lv) fs s := by
  refine segFor hs ?_
  rw [hov]
  have r0 := hi.run _ s σ H _ I h
  rw [hxe] at r0
  refine wpAny_mono r0 (fun v s1 h1 => ?_) fun _ _ z => z
  refine wpAny_mono h1 (fun itv s2 h2 p => ?_) fun _ _ z => z
  obtain ⟨it, fp, tn, Jt, H2, rfl, I2, T, st2, f2, W, w0, turn⟩ := h2
  have apart : ∀ b ∈ fp, b ∉ Z := fun b hb m => by
    obtain ⟨o, ho, _⟩ := hst b m
    exact (f2 b hb).2.2.2.2.2 (b, o) (List.mem_append_right _ (mem_pinsAt m ho)) rfl
  have fpz : ∀ {h0 : Heap} {H' : Hp}, (∀ b ∈ fp, H' b = none) → ∀ b ∈ fp, FpOk X (pinsAt Z h0) H' b := fun {h0 H'} hn b hb => by
    obtain ⟨_, q1, q2, q3, q4, q5⟩ := f2 b hb
    refine ⟨hn b hb, q1, q2, q3, q4, fun p hp z => ?_⟩
    rcases List.mem_append.mp hp with hp | hp
    · exact q5 p (List.mem_append_left _ hp) z
    · exact apart b hb (by rw [← z]; exact (of_pinsAt hp).1)
  have ov : ∀ c', c'.weight = 0 → c'.cUnits = 0 → A.over c' (forRet X.env K J gd lv c p :: fs) = X.A := fun c' h1 h2 => (over_loop h1 h2).trans hov
  have sp : splitAtGen (forRet X.env K J gd lv c p :: fs) = none := by
    show (splitAtGen fs).map _ = none
    rw [hsp]; rfl
  have gu : (forRet X.env K J gd lv c p :: fs).any Frame.guarded = false := by
    show (gd false || fs.any Frame.guarded) = false
    rw [hgd, hgu]; rfl
  have loop : ∀ (n i : Nat) (s₀ s3 : Shared) (σ3 : L2.St) (H3 : Hp), n + i = N → (∀ b ∈ Z, ∃ o, s₀.heap.get? b = some o ∧ ∀ v, o.data ≠ .cell v) → Inv X (pinsAt Z s₀.heap) σ3 H3 s3 → tn i s3.heap → (∀ b ∈ fp, H3 b = none) → W i σ3 H3 →
      Seg (model X.prog X.w) A R Y n s₀ (.forLoop tg (.ref it) [a, b, .Expr (.Yield (some e) yp) pos2] [] X.env) ((model X.prog X.w).den (.forLoop tg (.ref it) [a, b, .Expr (.Yield (some e) yp) pos2] [] X.env)) (forRet X.env K J gd lv c p :: fs) s3 := by
    intro n
    induction n with
    | zero =>
      intro i s₀ s3 σ3 H3 hn hz I3 st3 n3 w3
      obtain ⟨stop, dn⟩ := (turn i σ3 H3 w3).1 (by omega)
      refine segTurn (htg _) ?_
      rw [ov _ rfl rfl]
      refine wpAny_mono (T.done X rfl rfl rfl hc i _ s3 σ3 H3 (fun _ _ => False) I3 (fpz n3) st3 stop) (fun r s4 ⟨hr, I4⟩ => ?_) fun _ _ z => z
      subst hr
      exact segOver rfl (hend s₀ s4 σ3 H3 hz I4 dn)
    | succ n ih =>
      intro i s₀ s3 σ3 H3 hn hz I3 st3 n3 w3
      obtain ⟨go, step⟩ := (turn i σ3 H3 w3).2 (by omega)
      refine segTurn (htg _) ?_
      rw [ov _ rfl rfl]
      refine wpAny_mono (T.item X rfl rfl rfl hc i _ s3 σ3 H3 (fun _ _ => False) I3 (fpz n3) st3 go) (fun r s4 ⟨u, hr, h4⟩ => ?_) fun _ _ z => z
      subst hr
      dsimp only
      have h4' : wpAny (model X.prog X.w) X.A (pure () : Sem Unit) (fun _ s2 => ∃ x H', Inv X (pinsAt Z s₀.heap) σ3 H' s2 ∧ RelV x u ∧ Jt.yld i H3 x H' ∧ tn (i + 1) s2.heap ∧ ∀ b ∈ fp, H' b = none) (fun _ _ => False) s4 := by
        rw [htg] at h4
        exact h4
      show wpAny _ _ ((pure () : Sem Unit) >>= fun _ => assign tg X.env u) _ _ s4
      refine wpAny_bind (wpAny_mono h4' (fun _ s5 ⟨x, H5, I5, r5, y5, st5, n5⟩ => ?_) fun _ _ z => z)
      have I5' := I5.pinned (fpz n5) (T.obj _ _ st5)
      have rg := hg.run _ s5 σ3 H5 x u _ I5' r5 (step x H5 y5)
      rw [hxe] at rg
      refine wpAny_mono rg (fun _ s6 ⟨σ6, H6, I6, q6⟩ => ?_) fun _ _ z => z
      refine seg_execs_cons (seg_wrap ?_)
      rw [ov _ rfl rfl]
      have ra := ha.run _ s6 σ6 H6 _ I6 q6
      rw [hxe] at ra
      refine wpAny_mono ra (fun fl s7 q7 => ?_) fun _ _ z => z.elim
      cases fl with
      | brk => obtain ⟨_, _, _, z⟩ := q7; exact z.elim
      | cont => obtain ⟨_, _, _, z⟩ := q7; exact z.elim
      | ret v => obtain ⟨_, _, _, _, _, z⟩ := q7; exact z.elim
      | next =>
      obtain ⟨σ7, H7, I7, q7⟩ := q7
      refine seg_execs_cons (seg_wrap ?_)
      rw [ov _ rfl rfl]
      have rb := hb.run _ s7 σ7 H7 _ I7 q7
      rw [hxe] at rb
      refine wpAny_mono rb (fun fl s8 q8 => ?_) fun _ _ z => z.elim
      cases fl with
      | brk => obtain ⟨_, _, _, z⟩ := q8; exact z.elim
      | cont => obtain ⟨_, _, _, z⟩ := q8; exact z.elim
      | ret v => obtain ⟨_, _, _, _, _, z⟩ := q8; exact z.elim
      | next =>
      obtain ⟨σ8, H8, I8, q8⟩ := q8
      refine seg_execs_cons (seg_Expr_Yield sp rfl gu ?_ hco hin)
      rw [ov _ rfl rfl]
      have re := he.run _ s8 σ8 H8 _ I8 q8
      rw [hxe] at re
      refine wpAny_mono re (fun v s9 ⟨y, H9, I9, r9, ey, w9⟩ => ?_) fun _ _ z => z.elim
      intro kap hk
      refine hY n i s₀ v s9 σ8 H9 _ kap (by omega) (by rw [← ey]; exact r9) hz I9 fun sA z => hk .none sA ?_
      have IA := woken aw (fun p hp m => apart p.1 (of_pinsAt hp).1 m) hz I9 z
      have pinA : ∀ b ∈ fp, ∀ o, s5.heap.get? b = some o → sA.heap.get? b = some o ∧ H9 b = none := fun b hb o e => by
        obtain ⟨z1, z2, _⟩ := IA.pin (b, o) (List.mem_append_right _ (List.mem_append_right _ (mem_pinsAt hb e)))
        exact ⟨z1, z2⟩
      refine seg_execs_nil ?_
      refine seg_again rfl (ih (i + 1) sA sA σ8 H9 (by omega) z.own IA.unpinned (T.keep _ _ _ st5 fun b hb o e => (pinA b hb o e).1) (fun b hb => ?_) w9)
      obtain ⟨o, e, _⟩ := T.obj _ _ st5 b hb
      exact (pinA b hb o e).2
  exact loop N 0 s₀ s2 σ H2 (Nat.add_zero _) hst I2 st2 (fun b hb => (f2 b hb).1) w0
end
end Sr
/-! A generator def, by its body: what its call gives. -/
namespace Sr
open PySem PySem.Spec PyProof.Rows L2 GenW
/-- the end of its run -/
def ZEnd (P : Program) (w : World) (outer : List Env) (H : Hp) (s : Shared) (Z : List Addr) (Dn : Hp → Prop) (n : Nat) (s₀ s1 : Shared) : Prop :=
  n = 0 ∧ s1.os = s.os ∧ AllBare s1.gens ∧ (∀ b ∈ Z, ∀ o, s₀.heap.get? b = some o → s1.heap.get? b = some o) ∧ ∃ H', Un (frs outer) [] H H' s.heap s1.heap ∧ HOk P w H' s1.heap ∧ (∀ b ∈ Z, H' b = none) ∧ Dn H'
def ZR (P : Program) (w : World) (outer : List Env) (H : Hp) (s : Shared) (Z : List Addr) (Dn : Hp → Prop) : GenEnd := fun n s₀ r s1 => ((r = .ok (.ret .none) ∨ r = .ok .next) ∧ ZEnd P w outer H s Z Dn n s₀ s1) ∨ ∃ e, r = .error e ∧ (fun (_ : Value) (_ : Shared) => False) e s1
/-- the i-th value is handed out -/
def ZY (s : Shared) (Z : List Addr) (a : Addr) (g N : Nat) (f : Nat → V) : Protocol := fun n s₀ v s1 kap =>
  s1.os = s.os ∧ AllBare s1.gens ∧ s1.heap.NoLimit ∧ s1.heap.IsGen a g ∧ (∃ i, n + 1 + i = N ∧ RelV (f i) v) ∧ (∀ b ∈ Z, ∀ o, s₀.heap.get? b = some o → s1.heap.get? b = some o) ∧ ∀ s', Sleeps Z s1 s' → kap (.send .none) s'
/-- a generator that has not begun: it will hand out f 0 .. f (N - 1) -/
def ZMade (P : Program) (w : World) (k : Nat) (outer : List Env) (H : Hp) (s : Shared) (f : Nat → V) (N : Nat) (Dn : Hp → Prop) (u : Value) (s' : Shared) : Prop :=
  ∃ (a : Addr) (g : Nat) (c : Code), u = .ref a ∧ a < s'.heap.objs.size ∧ s'.heap.IsGen a g ∧ s'.gens[g]? = some (.fresh c) ∧ s'.os = s.os ∧ AllBare s'.gens ∧ s'.heap.NoLimit ∧ (∀ b o, s.heap.get? b = some o → s'.heap.get? b = some o) ∧ s.heap.objs.size ≤ s'.heap.objs.size ∧
    ∀ (A : Around) (Z : List Addr) (s2 : Shared), Room k A → A.frames = some outer → (∀ b ∈ Z, s'.heap.objs.size ≤ b ∧ ∃ o, s2.heap.get? b = some o ∧ ∀ v, o.data ≠ .cell v) → (∀ b o, s'.heap.get? b = some o → s2.heap.get? b = some o) → s2.os = s.os → AllBare s2.gens →
      Seg (model P w) A (ZR P w outer H s Z Dn) (ZY s Z a g N f) N s2 c ((model P w).den c) [] s2
abbrev SpZ := List V → Hp → (Nat → V) → Nat → (Hp → Prop) → Prop
structure FnZ (P : Program) (w : World) (K : PySem.W.Frag) (mg : Str → Option Value) (base : Heap) (k : Nat) (fa : Addr) (fd : FuncData) (ps : List Str) (sp : SpZ) : Prop where
  len : ∀ vs H f N Dn, sp vs H f N Dn → vs.length = ps.length
  run : ∀ (A : Around) (outer : List Env) (s : Shared) (H : Hp) (args : Args) (us : List Value) (vs : List V) (f : Nat → V) (N : Nat) (Dn : Hp → Prop), Room k A → Env0 P w K mg base A outer s H → BindsTo s fd args (ps.zip us) → Vals vs us → sp vs H f N Dn →
    codeAny (model P w) A (.call (.ref fa) args) (fun r s' => match r with | .ok (.ret u) => ZMade P w k outer H s f N Dn u s' | _ => False) s
/-- a body that is one such for -/
def ForBody (X : Cx) (body : List Stmt) (f : Nat → V) (N : Nat) (Dn : Hp → Prop) (σ : L2.St) (H : Hp) : Prop :=
  ∃ (tg iter e : Expr) (a b : Stmt) (yp pos pos2 : Pos) (wi : TI) (g : TG) (ta tb : TS) (te : TE), body = [.For tg iter [a, b, .Expr (.Yield (some e) yp) pos2] [] pos] ∧ PI X tg iter wi ∧ PG X tg g ∧ PS X a ta ∧ PS X b tb ∧ PE X e te ∧ (∀ x, foldedSetIterable iter X.env x = pure x) ∧ (∀ it v, letOwnedTupleGo tg it v = pure ()) ∧ tForY wi g ta tb te f N Dn σ H
section
variable {P : Program} {w : World} {K : PySem.W.Frag} {mg : Str → Option Value} {base : Heap} {k : Nat} {fa : Addr} {fd : FuncData} {N0 ps : List Str} {sp : SpZ} {x qual : Str} {st : Stmt}
theorem fnZ (F : Fun K x qual st fa fd) (S : GScope N0 ps (defScope st)) (hin : ∀ (n : Nat) (cdv : Value), interactive (envOfC qual (defScope st) n fa cdv) = false) (len : ∀ vs H f N Dn, sp vs H f N Dn → vs.length = ps.length)
    (hbody : ∀ (cdv : Value) (A : Around) (outer : List Env) (s : Shared) (H : Hp) (vs : List V) (f : Nat → V) (N : Nat) (Dn : Hp → Prop) (pn : List (Addr × Obj)), Room k (A.deeper (envOfC qual (defScope st) s.heap.objs.size fa cdv)) → sp vs H f N Dn →
      ForBody (gcxOf P w K mg base N0 qual (defScope st) fa cdv A outer s H E0 pn).nox (defBody st) f N Dn (L2.start N0 vs) H) : FnZ P w K mg base (k + 1) fa fd ps sp := by
  obtain ⟨oc, od, kV, doc, pm, an, cdv, ct, osl, rfl, lk, hcd⟩ := F.ex
  refine ⟨len, fun A outer s H args us vs f N Dn room st0 bnd rv prom => ?_⟩
  have size := len _ _ _ _ _ prom
  have inK : K.In s.heap := st0.mod.kin.keeps fun b o e => (st0.bs b o e).1
  have lim : s.heap.NoLimit := st0.mod.nolimit.keeps fun b o e => (st0.bs b o e).1
  have places : ∀ y ∈ ps.zip us, (defScope st).names.lookup y.1 = some .local ∨ ((defScope st).names.lookup y.1 = some .cell ∧ ((cellsFrom (s.heap.objs.size + 1) (defScope st).names []).lookup y.1).isSome = true) := by
    rintro ⟨n, v⟩ hy
    exact (S.par n (List.of_mem_zip hy).1).imp id fun q => ⟨q, PySem.W.cellsFrom_some _ _ _ (.inl q)⟩
  refine codeAny_call_generator room.depth (inK _ _ lk) rfl S.co S.gen rfl (PySem.W.codeRec_of inK hcd) (bnd _ _ _ _ (wpAny_newFunctionEnv_cells S.kind places fun env he s1 made => ?_))
  subst he
  have lim1 : s1.heap.NoLimit := lim.keeps made.toInCall.keep
  refine ⟨lim1, ?_⟩
  obtain ⟨h1, tk, es1, _⟩ := made.done
  have os1 : s1.os = s.os := by rw [es1]
  have gen1 : s1.gens = s.gens := by rw [es1]
  have lt1 : s.heap.objs.size < s1.heap.objs.size := made.toInCall.ns.lt
  have sz1 : s.heap.objs.size ≤ s1.heap.objs.size := Nat.le_of_lt lt1
  have kp1 : ∀ b o, s.heap.get? b = some o → s1.heap.get? b = some o := made.toInCall.keep
  have key : ∀ (go : Obj) (nm qn : Value) (tk2 : Nat), go.cls = .type "generator" → go.data = .fields #[.int s1.gens.size 0, nm, qn] → go.slots = #[] → (∀ h : Heap, (h.push go).get? h.objs.size = some go) →
      ZMade P w (k + 1) outer H s f N Dn (.ref s1.heap.objs.size) { s1 with gens := s1.gens.push (.fresh (.func (defBody st) (envOfC qual (defScope st) s.heap.objs.size fa cdv))), toks := tk2, heap := s1.heap.push go } := by
    intro go nm qn tk2 gc gd gs gp
    have isg : ∀ h : Heap, h.get? s1.heap.objs.size = some go → h.IsGen s1.heap.objs.size s1.gens.size := fun h e => ⟨go, nm, qn, e, gc, gd, gs⟩
    have there : (s1.heap.push go).get? s1.heap.objs.size = some go := gp _
    have psz : (s1.heap.push go).objs.size = s1.heap.objs.size + 1 := Heap.size_push ..
    refine ⟨s1.heap.objs.size, s1.gens.size, _, rfl, ?_, isg _ there, Array.getElem?_push_size .., os1, ?_, lim1.keeps fun b o e => Heap.get?_push_of_some _ e, fun b o e => Heap.get?_push_of_some _ (kp1 b o e), ?_, ?_⟩
    · show _ < (s1.heap.push go).objs.size
      omega
    · exact AllBare.push (by rw [gen1]; exact st0.bare) rfl
    · show _ ≤ (s1.heap.push go).objs.size
      omega
    intro Aw Z s2 hrw hfr hZ hk2 hos hba
    have e0w : Env0 P w K mg base Aw outer s H := ⟨hfr, st0.mod, st0.bs, st0.bsz, st0.funs, st0.frf, st0.hok, st0.bare⟩
    obtain ⟨tg, iter, e, a, b, yp, pos, pos2, wi, g, ta, tb, te, eb, hi, hg, ha, hb, he, hs, htg, read⟩ := hbody cdv Aw outer s H vs f N Dn [(s1.heap.objs.size, go)] (hrw.deeper _) prom
    have I1 : Inv (gcxOf P w K mg base N0 qual (defScope st) fa cdv Aw outer s H E0 []) [] (L2.start N0 vs) H s1 := inv_startG S hrw.hd e0w size rv made
    have kp2 : ∀ b o, s1.heap.get? b = some o → s2.heap.get? b = some o := fun b o e => hk2 b o (Heap.get?_push_of_some _ e)
    have I2 : Inv (gcxOf P w K mg base N0 qual (defScope st) fa cdv Aw outer s H E0 []) [] (L2.start N0 vs) H s2 := I1.call' (ch := []) (hos.trans os1.symm) (Un.kept kp2) (I1.hok.kept kp2) hba fun b z => nomatch z
    have gAt : s2.heap.get? s1.heap.objs.size = some go := hk2 s1.heap.objs.size go there
    have nocell : ∀ v, go.data ≠ .cell v := fun v q => by rw [gd] at q; cases q
    have young : ∀ b, s1.heap.objs.size ≤ b → H b = none ∧ b ≠ s.heap.objs.size ∧ b ∉ frs outer ∧ s.heap.objs.size ≤ b ∧ ∀ y c, (cellsFrom (s.heap.objs.size + 1) (defScope st).names []).lookup y = some c → c ≠ b := fun b hb => by
      refine ⟨I1.hok.fresh hb, Nat.ne_of_gt (Nat.lt_of_lt_of_le lt1 hb), I1.nofs hb, Nat.le_trans sz1 hb, fun y c e z => ?_⟩
      obtain ⟨v, ob, ho, _⟩ := I1.cell y c e
      have lt := Heap.lt_size ho
      rw [z] at lt
      exact Nat.lt_irrefl _ (Nat.lt_of_lt_of_le lt hb)
    have zle : ∀ b ∈ Z, s1.heap.objs.size < b := fun b m => by
      have q := (hZ b m).1
      have q : (s1.heap.push go).objs.size ≤ b := q
      exact Nat.lt_of_lt_of_le (by rw [psz]; exact Nat.lt_succ_self _) q
    have I3 : Inv (gcxOf P w K mg base N0 qual (defScope st) fa cdv Aw outer s H E0 [(s1.heap.objs.size, go)]).nox (pinsAt Z s2.heap) (L2.start N0 vs) H s2 := by
      refine Inv.wish (Inv.pinnedG I2 fun p hp => ?_) _
      rcases List.mem_append.mp hp with z | z
      · rw [List.mem_singleton.mp z]
        obtain ⟨y1, y2, y3, _⟩ := young s1.heap.objs.size (Nat.le_refl _)
        exact ⟨gAt, y1, y2, y3, nocell⟩
      · obtain ⟨zb, ze⟩ := of_pinsAt z
        obtain ⟨y1, y2, y3, _⟩ := young p.1 (Nat.le_of_lt (zle _ zb))
        obtain ⟨o, ho, nc⟩ := (hZ _ zb).2
        rw [ze] at ho
        cases ho
        exact ⟨ze, y1, y2, y3, nc⟩
    have aw : AwayZ (gcxOf P w K mg base N0 qual (defScope st) fa cdv Aw outer s H E0 [(s1.heap.objs.size, go)]).nox Z := by
      refine ⟨fun p hp m => ?_, fun b m => ?_⟩
      · rw [List.mem_singleton.mp hp] at m
        exact Nat.lt_irrefl _ (zle _ m)
      · obtain ⟨_, y2, _, y4, y5⟩ := young b (Nat.le_of_lt (zle b m))
        exact ⟨y4, y2, y5⟩
    have zst : ∀ {h0 : Heap} {σ' : L2.St} {H' : Hp} {s' : Shared} {ip : List (Addr × Obj)}, Inv (gcxOf P w K mg base N0 qual (defScope st) fa cdv Aw outer s H E0 [(s1.heap.objs.size, go)]).nox (pinsAt Z h0 ++ ip) σ' H' s' → ∀ b ∈ Z, ∀ o, h0.get? b = some o → s'.heap.get? b = some o ∧ H' b = none := fun {h0 σ' H' s' ip} J b m o e => by
      obtain ⟨z1, z2, _⟩ := J.pin (b, o) (List.mem_append_right _ (List.mem_append_left _ (mem_pinsAt m e)))
      exact ⟨z1, z2⟩
    refine seg_func ?_
    rw [eb]
    refine seg_execs_cons ?_
    refine seg_walk (Z := Z) (f := f) (Dn := Dn) rfl rfl aw over_func rfl rfl rfl hi hg ha hb he hs htg S.co (hin _ _) (fun n i s₀ v s' σ' H' ip kap hn r hz J hk => ?_) (fun s₀ s' σ' H' hz J dn => ?_) (fun b m => (hZ b m).2) I3 read
    · exact ⟨J.os, J.bare, J.nolimit, isg _ (J.pin (s1.heap.objs.size, go) (List.mem_append_left _ (List.mem_singleton.mpr rfl))).1, ⟨i, hn, r⟩, fun b m o e => (zst J b m o e).1, hk⟩
    · have J' : Inv (gcxOf P w K mg base N0 qual (defScope st) fa cdv Aw outer s H E0 [(s1.heap.objs.size, go)]).nox (pinsAt Z s₀.heap ++ []) σ' H' s' := by rw [List.append_nil]; exact J
      refine seg_execs_nil (seg_end (.ok (.ret .none)) (.inl ⟨.inl rfl, rfl, J.os, J.bare, fun b m o e => (zst J' b m o e).1, H', J.base, J.hok, fun b m => ?_, dn⟩))
      obtain ⟨o, ho, _⟩ := hz b m
      exact (zst J' b m o ho).2
  exact key _ _ _ _ rfl rfl rfl fun h => Heap.get?_push_size _ rfl
end
end Sr
/-! [x for x in o.m(e)], m a generator method. -/
namespace Sr
open PySem PySem.Spec PyProof.Rows L2 GenW
structure GMZ (P : Program) (w : World) (K : PySem.W.Frag) (mg : Str → Option Value) (base : Heap) (k : Nat) (C : Addr) (m : Str) (ps : List Str) (sp : SpZ) : Prop where
  cl : Cls K C
  ex : ∃ (f : Addr) (fd : FuncData), Meth K C m f ∧ Binds K fd ps [] ∧ FnZ P w K mg base k f fd ps sp
def tLcZ (C : Addr) (m : Str) (sp : SpZ) (to : TE) (ta : TA) : TE := fun σ H Q => to σ H fun x H1 => ∃ a dx fs, x = .ref a ∧ H1 a = some (.ins C dx fs) ∧ fs.lookup m = none ∧ ta σ H1 fun vs H2 =>
  ∃ (f : Nat → V) (N : Nat) (Dn : Hp → Prop), N ≤ 100000 ∧ sp (.ref a :: vs) H2 f N Dn ∧ ∀ l H3, Dn H3 → H3 l = none → H2 l = none → Q (.ref l) (upd H3 l (.lst ((List.range N).map f)))
theorem Heap.Ns.obj {h : Heap} {a : Addr} {m : Str → Option Value} (x : h.Ns a m) : ∃ o, h.get? a = some o ∧ ∀ v, o.data ≠ .cell v := by
  obtain ⟨o, es, ep, ho, hd, _⟩ := x
  exact ⟨o, ho, fun v z => by rw [hd] at z; cases z⟩
section
variable {X : Cx} {k : Nat} {C : Addr} {m x : Str} {ps : List Str} {sp : SpZ} {to : TE} {ta : TA} {o e : Expr} {scope : Scope} {pos p1 p2 apos cpos : Pos}
theorem pe_lcZ {pl : Sem Bool} (G : GMZ X.prog X.w X.K X.mg X.base k C m ps sp) (hr : Room (k + 1) X.A) (ho : PE X o to) (ha : PA X [e] ta)
    (hnm : ∀ y ∈ scope.names, y.2 = .local) (hkind : scope.kind = .function) (hlook : ∀ y ∈ scope.names, scope.names.lookup y.1 = some .local) (hx : scope.names.lookup x = some .local) (hdb : (x == ("__debug__" : Str)) = false := by decide)
    (hst : starEach [e] X.env = (false, eval e X.env) :: starEach [] X.env := by rfl) (hpl : (backTo cpos (starEach ([] : List Expr) X.env)).any (·.1) = false := by rfl)
    (ht : eval (.Call (.Attribute o m apos) [e] [] cpos) X.env = (do
      let ov ← eval o X.env
      standAt apos.atName
      let (g, first) ← holding [ov] (getMethod ov m pl)
      callWith cpos g first (backTo cpos (starEach [e] X.env)) (backToKw cpos (keywordEach [] X.env))) := by rfl)
    (hs : ∀ v, foldedSetIterable (.Call (.Attribute o m apos) [e] [] cpos) X.env v = pure v := by intro _; rfl) :
    PE X (.ListComp (.Name x p1) [⟨.Name x p2, .Call (.Attribute o m apos) [e] [] cpos, [], 0⟩] scope pos) (tLcZ C m sp to ta) := by
  refine ⟨fun pins s σ H Q I h => ?_⟩
  obtain ⟨fa, fd, hm, hb, F⟩ := G.ex
  refine wpAny_ListComp (fun y hy z => by rw [hnm y hy] at z; cases z) hkind (fun y hy _ => hlook y hy) ?_ hs
  refine PySem.W.methodCall_KW (pl := pl) (thn (ho.run pins s σ H _ I h) fun u s1 ⟨xv, H1, I1, rx, a, dx, fs, ex, ea, l, q⟩ => ?_) ht
  cases ex
  cases rx
  refine getmeth_ok I1 ea G.cl hm l (PySem.W.callWith_K (first := [.ref a]) (h₀ := X.base) I.ok.mod.kin hm.kp (thn (ha.run cpos pins s1 σ H1 _ I1 q) fun us s2 ⟨vs, H2, I2, r, f, N, Dn, hN, prom, q2⟩ => ⟨I2.kIn, ?_⟩) hst hpl)
  have r2 : Vals (V.ref a :: vs) (Value.ref a :: us) := .cons rfl r
  have hl2 : (Value.ref a :: us).length = ps.length := r2.length.symm.trans (F.len _ _ _ _ _ prom)
  refine wpAny_call (codeAny_mono (F.run X.A X.stack s2 H2 ⟨.ref a :: us, []⟩ (Value.ref a :: us) (.ref a :: vs) f N Dn (hr.mono (Nat.le_succ k)) I2.env0 (by
    have z := hb s2 (.ref a :: us) I2.kIn (by rw [List.append_nil]; exact hl2)
    rw [List.append_nil] at z
    exact z) r2 prom) fun res s3 made => ?_)
  match res, made with
  | .error _, z => exact z.elim
  | .ok .next, z => exact z.elim
  | .ok .brk, z => exact z.elim
  | .ok .cont, z => exact z.elim
  | .ok (.ret u), z =>
  obtain ⟨ga, g, c, rfl, glt, isg, gfr, os3, ba3, nl3, kp3, sz3, wake⟩ := z
  refine wpAny_pyIter_gen isg ?_
  refine wpAny_newObj_type (hd := by size_fits) (wpAny_newFunctionEnv (fun y hy z => by rw [hnm y hy] at z; cases z) (by intro y hy; simp at hy) (fun h4 ns4 sb4 => ?_) hkind)
  dsimp only at ns4 sb4 ⊢
  have psz : (s3.heap.push { cls := .type "list", dict := none, data := .seq ([] : List Value).toArray }).objs.size = s3.heap.objs.size + 1 := Heap.size_push ..
  have ne : s3.heap.objs.size ≠ (s3.heap.push { cls := .type "list", dict := none, data := .seq ([] : List Value).toArray }).objs.size := by rw [psz]; exact Nat.ne_of_lt (Nat.lt_succ_self _)
  have atD : h4.get? s3.heap.objs.size = some (lstObj #[] 0) := (sb4.2 _ ne).trans (Heap.get?_push_of_some _ (Heap.get?_push_size _ rfl))
  have old4 : ∀ b o, s3.heap.get? b = some o → h4.get? b = some o := fun b o e => by
    have lt := Heap.lt_size e
    refine (sb4.2 b (by rw [psz]; exact Nat.ne_of_lt (Nat.lt_succ_of_lt lt))).trans (Heap.get?_push_of_some _ (Heap.get?_push_of_some _ e))
  have leC : s3.heap.objs.size ≤ (s3.heap.push { cls := .type "list", dict := none, data := .seq ([] : List Value).toArray }).objs.size := by rw [psz]; exact Nat.le_succ _
  clear sb4
  generalize hCe : (s3.heap.push { cls := .type "list", dict := none, data := .seq ([] : List Value).toArray }).objs.size = Cn at ns4 ne leC ⊢
  generalize hDe : s3.heap.objs.size = D at atD ne leC ⊢
  have room1 : Room k X.A.in1 := hr.in1
  have hcs : cStatics < D := by
    obtain ⟨mc, hn, _⟩ := nl3
    rw [← hDe]
    exact hn.lt
  have gD : ga < D := by rw [← hDe]; exact glt
  have gne : ga ≠ D ∧ ga ≠ Cn := ⟨Nat.ne_of_lt gD, Nat.ne_of_lt (Nat.lt_of_lt_of_le gD leC)⟩
  have cne : cStatics ≠ D ∧ cStatics ≠ Cn := ⟨Nat.ne_of_lt hcs, Nat.ne_of_lt (Nat.lt_of_lt_of_le hcs leC)⟩
  have isg4 : h4.IsGen ga g := isg.keeps old4
  have loop : codeAny (model X.prog X.w) X.A (.compLoop (.ListComp (.Name x p1) [⟨.Name x p2, .Call (.Attribute o m apos) [e] [] cpos, [], 0⟩] scope pos) 0 (.ref ga) (.ref D)
      { newEnv scope Cn X.env.globals [] X.env.qual none .none (some X.env) X.env.builtins with scope := scope })
      (fun r s' => ∃ m, s'.heap.Ns Cn m ∧ ∀ h', Heap.SameBut Cn s'.heap h' → match r with
        | .ok _ => EP X pins σ Q (.ref D) { s' with heap := h' }
        | .error x => wpAny (model X.prog X.w) X.A (passOn "comprehension.variables-let-go" x { newEnv scope Cn X.env.globals [] X.env.qual none .none (some X.env) X.env.builtins with scope := scope }) (EP X pins σ Q) X.xe { s' with heap := h' }) { s3 with heap := h4, toks := s3.toks + ([] : List (Str × Value)).length } := by
    refine codeAny_compLoop_tests (fun n s6 => ∃ (i : Nat) (mm : Str → Option Value) (acc : Array Value) (cc : Nat) (gs : GenState), n + i = N ∧ s6.heap.IsGen ga g ∧ s6.heap.NoLimit ∧ s6.gens[g]? = some gs ∧
      gs.Goes (model X.prog X.w) X.A.in1 (ZR X.prog X.w X.stack H2 s2 [D, Cn] Dn) (ZY s2 [D, Cn] ga g N f) n (.send .none) (s6.setGen g .running) ∧ s6.heap.get? D = some (lstObj acc cc) ∧ Vals ((List.range i).map f) acc.toList ∧ s6.heap.Ns Cn mm) ?_ N ?_
    · rintro n s6 ⟨i, mm, acc, cc, gs, hn, ig6, nl6, gs6, goes, at6, vs6, ns6⟩
      have glt6 : g < s6.gens.size := (Array.getElem?_eq_some_iff.mp gs6).1
      refine wpAny_gsz (n := g + 1) glt6 (next_genG (A := X.A) (F := ZEnd X.prog X.w X.stack H2 s2 [D, Cn] Dn) (Er := fun _ _ => False) hr.hd nl6 hr.depth ig6 gs6 goes (fun v t1 gs' bare hv => ?_) (fun t1 hp h' hk' => ?_) fun _ _ z => z.elim)
      · intro hsz
        obtain ⟨os1, b1, nl1, ig1, ⟨i', hi', rv⟩, hz1, hk⟩ := hv
        have at1 : t1.heap.get? D = some (lstObj acc cc) := hz1 D List.mem_cons_self _ at6
        obtain ⟨oC, hoC, ncC⟩ := Heap.Ns.obj ns6
        have ns1 : t1.heap.Ns Cn mm := ns6.at fun o e => hz1 Cn (List.mem_cons_of_mem _ List.mem_cons_self) o e
        have own1 : ∀ b ∈ [D, Cn], ∃ o, t1.heap.get? b = some o ∧ ∀ v, o.data ≠ .cell v := fun b hb => by
          rcases List.mem_cons.mp hb with rfl | hb
          · exact ⟨_, at1, fun v z => by cases z⟩
          · rw [List.mem_singleton.mp hb]
            exact Heap.Ns.obj ns1
        cases n with
        | zero => exact (hk t1 ⟨rfl, b1, fun _ _ _ e => e, own1⟩).elim
        | succ n =>
        have ei : i' = i := by omega
        subst ei
        have vlen : i' = acc.size := by
          have z := vs6.length
          rw [List.length_map, List.length_range, Array.length_toList] at z
          exact z
        have glt1 : g < t1.gens.size := by
          rw [setGen_size] at hsz
          exact hsz
        refine wpAny_assign_Name (wpAny_storeName_local (s := t1.setGen g gs') hx ns1 (fun h5 ns5 sb5 => ?_) (by show (scope.kind == _ || _) = false; rw [hkind]; rfl))
        refine wpAny_tests_nil ?_
        rw [if_pos rfl]
        refine wpAny_Name (wpAny_loadName_local (m := fun y => if y = x then some v else mm y) (v := v) hkind hx ns5 (if_pos rfl) ?_) hdb
        have at5 : h5.get? D = some (lstObj acc cc) := (sb5.2 D ne).trans at1
        refine append_at (hsz := by rw [← vlen, sizeLine_eq]; omega) at5 fun h6 sb6 atN => ?_
        have kp6 : ∀ b o, b ∉ [D, Cn] → t1.heap.get? b = some o → h6.get? b = some o := fun b o nb e =>
          (sb6.2 b fun z => nb (by rw [z]; exact List.mem_cons_self)).trans ((sb5.2 b fun z => nb (by rw [z]; exact List.mem_cons_of_mem _ List.mem_cons_self)).trans e)
        have nin : ∀ {b : Addr}, b ≠ D → b ≠ Cn → b ∉ [D, Cn] := fun {b} z1 z2 m => by
          rcases List.mem_cons.mp m with m | m
          · exact z1 m
          · exact z2 (List.mem_singleton.mp m)
        have ns6' : h6.Ns Cn fun y => if y = x then some v else mm y := ns5.sameBut sb6 (Ne.symm ne)
        refine ⟨n, Nat.lt_succ_self n, i' + 1, _, acc.push v, cc + 1, gs', by omega, ?_, ?_, setGen_at glt1, ?_, atN, ?_, ns6'⟩
        · obtain ⟨og, nm, qn, ho, r⟩ := ig1
          exact ⟨og, nm, qn, kp6 _ _ (nin gne.1 gne.2) ho, r⟩
        · exact nl1.at fun o e => kp6 _ o (nin cne.1 cne.2) e
        · refine hk _ ⟨rfl, allBare_setGen (s := { t1.setGen g gs' with heap := h6, toks := _ }) (allBare_setGen b1 bare) rfl, kp6, fun b hb => ?_⟩
          rcases List.mem_cons.mp hb with rfl | hb
          · exact ⟨_, atN, fun v z => by cases z⟩
          · rw [List.mem_singleton.mp hb]
            exact Heap.Ns.obj ns6'
        · rw [Array.toList_push, List.range_succ, List.map_append]
          exact vs6.append (.cons rv .nil)
      · intro hsz
        obtain ⟨hn0, os1, b1, hz1, H', un, hok, hnz, dn⟩ := hp
        have en : i = N := by omega
        subst en
        have at1 : t1.heap.get? D = some (lstObj acc cc) := hz1 D List.mem_cons_self _ at6
        have ns1 : t1.heap.Ns Cn mm := ns6.at fun o e => hz1 Cn (List.mem_cons_of_mem _ List.mem_cons_self) o e
        refine ⟨mm, ns1.keeps hk', fun h'' sb => ?_⟩
        have leD : s2.heap.objs.size ≤ D := by rw [← hDe]; exact sz3
        have hlen : ((List.range i).map f).length ≤ sizeLine := by rw [List.length_map, List.length_range, sizeLine_eq]; omega
        have J : Inv X pins σ (upd H' D (.lst ((List.range i).map f))) { t1.setGen g .finished with heap := h' } :=
          Inv.drained I2 leD hlen (hk' _ _ at1) vs6 ExOk.nil os1 (allBare_setGen b1 rfl) (un.trans (Un.kept hk')) (hok.kept hk') (hnz D List.mem_cons_self)
        have cN : upd H' D (.lst ((List.range i).map f)) Cn = none := by
          rw [upd_ne (Ne.symm ne)]
          exact hnz Cn (List.mem_cons_of_mem _ List.mem_cons_self)
        obtain ⟨f0, f1, f2, f3, f4, f5⟩ := I2.fpOk (Nat.le_trans leD leC) cN
        exact ⟨.ref D, _, J.turned (t' := t1.toks) (fun b o hb e => (sb.2 b hb).trans e) f0 f1 f3 f4 f5, rfl, q2 D H' dn (hnz D List.mem_cons_self) (I2.hok.fresh leD)⟩
    · refine ⟨0, _, #[], 0, .fresh c, Nat.add_zero _, isg4, nl3.keeps old4, gfr, ⟨rfl, wake X.A.in1 [D, Cn] _ room1 I.ok.frames (fun b hb => ?_) old4 os3 (allBare_setGen (s := { s3 with heap := h4, toks := _ }) ba3 rfl)⟩, atD, .nil, ns4⟩
      rcases List.mem_cons.mp hb with rfl | hb
      · exact ⟨by rw [hDe]; exact Nat.le_refl _, _, atD, fun v z => by cases z⟩
      · rw [List.mem_singleton.mp hb]
        exact ⟨by rw [hDe]; exact leC, Heap.Ns.obj ns4⟩
  exact codeAny_compStart_list loop (wpAny_pyIter_gen isg4 loop)
end
end Sr
/-! Machine.walk; the rows walked. -/
namespace Sr
open PySem PySem.Spec PyProof.Rows L2 GenW
abbrev s_Machine_walk : Stmt := inClass (top 73) 13
theorem sc_walk : GScope ["self", "many", "turn", "number"] ["self", "many"] (defScope s_Machine_walk) := ⟨rfl, rfl, rfl, by decide +kernel, rfl, by decide +kernel, by decide +kernel⟩
section
variable {P : Program} {w : World} {K : PySem.W.Frag} {mg : Str → Option Value} {base : Heap} {f : Addr} {fd : FuncData}
def sp_walk (K : PySem.W.Frag) (C : Addr) : SpZ := fun vs H g N Dn => ∃ (p ring M G A : Addr) (rs : List Rec) (e : Int) (k : Nat) (ms : MS) (st : Option (List (Int × Flt))) (n : Nat), vs = [.ref p, .int n] ∧ n ≤ 10000 ∧ MachR K H C p ring M G A rs e k ms st ∧ N = n ∧ g = (fun i => .int (runM (ringR rs e k) i ms).row) ∧
  ∀ H', Kp [p, M, G] H H' → MachR K H' C p ring M G A rs e k (runM (ringR rs e k) n ms) st → Dn H'
theorem ok_walk {C : Addr} (F : At K mg "walk" "Machine.walk" s_Machine_walk ["self", "many"] f fd) (T : Txt K mg) (R : MachT K C) (m_execute_next : GM P w K mg base 3 C "execute_next" ["self"] (sp_execute_next K C)) : FnZ P w K mg base 4 f fd ["self", "many"] (sp_walk K C) := by
  refine fnZ F.fn sc_walk (fun _ _ => rfl) (fun vs H g N Dn h => ?_) (fun cdv A0 outer s H vs g N Dn pn hr h => ?_)
  · obtain ⟨p, ring, M, G, A, rs, e, k, ms, st, n, rfl, _⟩ := h
    rfl
  · obtain ⟨p, ring, M, G, A, rs, e, k, ms, st, n, rfl, hn, m, rfl, rfl, q⟩ := h
    refine ⟨_, _, _, _, _, _, _, _, _, _, _, _, _, rfl, pi_range1 rfl T.f_range (pa_cons (pv 1) pa_nil), pg_name (i := 2) sc_walk.nd rfl (Or.inl rfl), ps_set (i := 3) sc_walk.nd rfl (Or.inl rfl) (pe_fldK (K := K) (pv 0) rfl), ps_expr (pe_gm0 m_execute_next (hr.mono (by decide)) (pv 0)), pv 3, fun _ => rfl, fun _ _ => rfl, ?_⟩
    refine ei_range (n := N) (ed_var rfl (.int _)) rfl (by omega) H (Kp.refl _ _) _ fun J H1 Gg k1 wk hG => ?_
    refine ⟨fun i σ' H' => ∃ o2 o3, σ' = [some (.ref p), some (.int N), o2, o3] ∧ Kp [p, M, G] H1 H' ∧ MachR K H' C p ring M G A rs e k (runM (ringR rs e k) i ms) st, ⟨_, _, rfl, Kp.refl _ _, m.kp0 k1⟩, fun i σ' H2 hP => ?_⟩
    obtain ⟨o2, o3, rfl, kp, mr⟩ := hP
    have g2 := hG [p, M, G] H2 kp fun _ z => nomatch z
    refine ⟨fun en => ?_, fun lt => ⟨wk.goes i H2 lt g2, fun x H3 y => ?_⟩⟩
    · subst en
      exact ⟨wk.stops H2 g2, q H2 (k1.wid.trans kp) mr⟩
    · obtain ⟨rfl, rfl⟩ := wk.yields i H2 x H3 lt g2 y
      obtain ⟨tl, mi, ht⟩ := mr.ex
      obtain ⟨dx, wv, ep, l1, l2, l3, l4, l5, l6, l7⟩ := mfield mi.o
      refine sv_set (v := .int (runM (ringR rs e k) i ms).row) (ev_fld (K := K) (ev_var rfl) ep R.cl R.na_next_row l4) fun H4 k4 => ?_
      have mi4 := mi.kp0 k4
      obtain ⟨dx4, wv4, ep4, _⟩ := mfield mi4.o
      refine ⟨_, rfl, p, dx4, _, rfl, ep4, by rcases mi4.o.tl1 with rfl | ⟨v, rfl⟩ <;> rfl, p, ring, M, G, A, rs, e, k, _, tl, rfl, mi4, fun H5 k5 m5 => ?_⟩
      refine ⟨_, rfl, rfl, _, _, rfl, (kp.trans k4.wid).trans k5, ?_⟩
      have := MachR.run (n := i + 1) m ((ht.kp k4).kp k5) m5
      exact this
theorem ok__law_walked (F : At K mg "_law_walked" "_law_walked" s__law_walked ["_law_machine", "_law_number"] f fd) (T : Txt K mg) (G_walk : ∀ C, MC K C → GMZ P w K mg base 4 C "walk" ["self", "many"] (sp_walk K C)) : FnOk P w K mg base CX0 8 f fd ["_law_machine", "_law_number"] (sp__law_walked K) := by
  refine FnOk.mono (F.fn.ok (k := 6) sc__law_walked (fun vs H Q E h => ?_) (fun cdv A0 outer s H vs Q E hr h => ?_)) (by decide)
  · obtain ⟨C, p, ring, M, G, A, rs, e, k, ms, st, n, rfl, _⟩ := h
    rfl
  · obtain ⟨C, p, ring, M, G, A, rs, e, k, ms, st, n, rfl, hC, hn, m, q⟩ := h
    have g_walk := G_walk C hC
    refine ⟨_, (pss_one (ps_ret (pe_lcZ g_walk (hr.mono (by decide)) (pv 0) (pa_cons (pv 1) pa_nil) (by decide +kernel) rfl (by decide +kernel) rfl))), ?_⟩
    refine retX_s ?_
    obtain ⟨tl, mi, ht⟩ := m.ex
    obtain ⟨dx, wv, ep, _⟩ := mfield mi.o
    refine ⟨_, rfl, p, dx, _, rfl, ep, by rcases mi.o.tl1 with rfl | ⟨v, rfl⟩ <;> rfl, ⟨_, rfl, ?_⟩⟩
    refine ⟨fun i => .int (runM (ringR rs e k) i ms).row, n, fun H' => Kp [p, M, G] H H' ∧ MachR K H' C p ring M G A rs e k (runM (ringR rs e k) n ms) st, by omega, ⟨p, ring, M, G, A, rs, e, k, ms, st, n, rfl, hn, m, rfl, rfl, fun H' kp mr => ⟨kp, mr⟩⟩, fun l H3 hd hl hl0 => ?_⟩
    obtain ⟨kp, mr⟩ := hd
    have el : (List.range n).map (fun i : Nat => V.int (runM (ringR rs e k) i ms).row) = (rowsM (ringR rs e k) n ms).map V.int := by
      unfold rowsM
      rw [List.map_map]
      rfl
    rw [el]
    exact q l _ hl0 (kp.newT hl) upd_same (mr.kp0 (Kp.new hl))
end
end Sr
/-! The head: a method that asks super(). -/
namespace Sr
open PySem PySem.Spec PyProof.Rows L2
theorem FunX.sup {P : Program} {K : PySem.W.Frag} {C D : Pl} {x qual m file : Str} {st : Stmt} {fd : FuncData} (F : FunX K ⟨fun K => He.ma K (C K) m, x, qual, st, ["__class__"]⟩ fd) (c : supB C D m file K = true) (hf : (P.main.file : Str) = file) (ht : (P.main.scope.names.lookup ("super" : Str)).isSome = false) :
    ∃ cc cda, FunC P K x qual st m (C K) (He.ma K (C K) m) (He.ma K (D K) m) fd cc cda := by
  obtain ⟨cl, oc, od, kV, doc, pm, an, cdv, ct, osl, h, rfl, l, cd⟩ := F.ex
  obtain ⟨c1, c⟩ := He.ba c
  obtain ⟨c2, c⟩ := He.ba c
  obtain ⟨c3, c⟩ := He.ba c
  obtain ⟨c4, c⟩ := He.ba c
  obtain ⟨c5, c⟩ := He.ba c
  obtain ⟨c6, c7⟩ := He.ba c
  have l' : K.lookup (He.ma K (C K) m) = _ := l
  rw [l'] at c1
  obtain ⟨k1, k2⟩ := He.ba c1
  dsimp only at k1 k2
  split at k1
  · rename_i cda
    split at k1
    · rename_i ccl cdd vs ccs lc
      split at k1
      · rename_i z tf hz
        split at k2
        · rename_i q
          split at k2
          · rename_i q1 q2 a q3 lq
            have eq1 : q.1 = ("__class__" : Str) := (List.cons.inj (show [q.1] = [("__class__" : Str)] from h)).1
            obtain ⟨y, cc⟩ := q
            dsimp only at eq1 lq
            subst eq1
            have ea : a = C K := of_decide_eq_true k2
            subst ea
            exact ⟨cc, cda, ⟨oc, od, kV, doc, pm, an, ct, osl, rfl, l⟩, cd, ⟨ccl, cdd, vs, ccs, z, tf, lc, hz, by rw [hf]; exact k1⟩, ⟨_, _, _, lq⟩, He.eqO_ok c2, Option.isSome_iff_exists.mp c3, of_decide_eq_true c4, He.eqO_ok c5, c6, of_decide_eq_true c7, ht⟩
          · cases k2
        · cases k2
      · cases k1
    · cases k1
  · cases k1
end Sr
/-! The head: facts by name. -/
namespace Sr
open PySem PySem.Spec PyProof.Rows L2
structure Hd (P : Program) (K : PySem.W.Frag) (mg : Str → Option Value) : Prop where
  h : ∃ h : Heap, K.In h ∧ h.Ns mainGlobals mg
  c : SaysS hxs hfn K
  hf : (P.main.file : Str) = "/claim/cut.py"
  ht : (P.main.scope.names.lookup ("super" : Str)).isSome = false
section
variable {P : Program} {w : World} {K : PySem.W.Frag} {mg : Str → Option Value} {base : Heap} (Z : Hd P K mg)
include Z
theorem hd_T : Txt K mg := by
  obtain ⟨h, X, G⟩ := Z.h
  exact {
    f_isinstance := He.free_ok X G (Z.c.fact 0 (x := freeB "isinstance") rfl),
    f_int := He.free_ok X G (Z.c.fact 1 (x := freeB "int") rfl),
    f_bool := He.free_ok X G (Z.c.fact 2 (x := freeB "bool") rfl),
    f_str := He.free_ok X G (Z.c.fact 3 (x := freeB "str") rfl),
    f_tuple := He.free_ok X G (Z.c.fact 4 (x := freeB "tuple") rfl),
    f_list := He.free_ok X G (Z.c.fact 5 (x := freeB "list") rfl),
    f_len := He.free_ok X G (Z.c.fact 6 (x := freeB "len") rfl),
    f_all := He.free_ok X G (Z.c.fact 7 (x := freeB "all") rfl),
    f_range := He.free_ok X G (Z.c.fact 8 (x := freeB "range") rfl),
    f_enumerate := He.free_ok X G (Z.c.fact 9 (x := freeB "enumerate") rfl),
    f_repr := He.free_ok X G (Z.c.fact 10 (x := freeB "repr") rfl),
    f_sorted := He.free_ok X G (Z.c.fact 11 (x := freeB "sorted") rfl),
    f_max := He.free_ok X G (Z.c.fact 12 (x := freeB "max") rfl),
    f_super := He.free_ok X G (Z.c.fact 13 (x := freeB "super") rfl),
    c_GREATEST_WORD := ⟨He.int_ok X G (Z.c.fact 14 (x := intB "GREATEST_WORD" 999999) rfl)⟩,
    c_SIZE_OF_WORDS := ⟨He.int_ok X G (Z.c.fact 15 (x := intB "SIZE_OF_WORDS" 1000000) rfl)⟩,
    c_RECIPE_REGISTERS := ⟨He.int_ok X G (Z.c.fact 16 (x := intB "RECIPE_REGISTERS" 24) rfl)⟩,
    c_RECIPE_PARTS := ⟨He.int_ok X G (Z.c.fact 17 (x := intB "RECIPE_PARTS" 2) rfl)⟩,
    c_INVALID := ⟨He.int_ok X G (Z.c.fact 18 (x := intB "INVALID" 999999) rfl)⟩,
    c_MOST_FAULTS := ⟨He.int_ok X G (Z.c.fact 19 (x := intB "MOST_FAULTS" 3) rfl)⟩,
    c_MOST_COPIES := ⟨He.int_ok X G (Z.c.fact 20 (x := intB "MOST_COPIES" 16) rfl)⟩,
    c_STORES_rings := ⟨He.int_ok X G (Z.c.fact 21 (x := intB "STORES_rings" 4) rfl)⟩,
    c_CHOOSE_PARTS := ⟨He.int_ok X G (Z.c.fact 22 (x := intB "CHOOSE_PARTS" 5) rfl)⟩,
    c_STORES_faults := ⟨He.int_ok X G (Z.c.fact 23 (x := intB "STORES_faults" 4) rfl)⟩,
    c_PARTS := ⟨He.int_ok X G (Z.c.fact 24 (x := intB "PARTS" 3) rfl)⟩,
    c_ROW_PARTS := ⟨He.int_ok X G (Z.c.fact 25 (x := intB "ROW_PARTS" 2) rfl)⟩,
    c_STORES_reading := ⟨He.int_ok X G (Z.c.fact 26 (x := intB "STORES_reading" 4) rfl)⟩,
    c_SET := ⟨He.str_ok X G (Z.c.fact 27 (x := strB "SET" "set") rfl)⟩,
    c_LOAD := ⟨He.str_ok X G (Z.c.fact 28 (x := strB "LOAD" "load") rfl)⟩,
    c_CHOOSE := ⟨He.str_ok X G (Z.c.fact 29 (x := strB "CHOOSE" "choose") rfl)⟩,
    c_WORD := ⟨He.str_ok X G (Z.c.fact 30 (x := strB "WORD" "word") rfl)⟩,
    c_REGISTER := ⟨He.str_ok X G (Z.c.fact 31 (x := strB "REGISTER" "register") rfl)⟩,
    c_ROW := ⟨He.str_ok X G (Z.c.fact 32 (x := strB "ROW" "row") rfl)⟩,
    g_OPERATORS := He.glo_ok X G (Z.c.fact 79 (x := gloB "OPERATORS") rfl),
    g_Ring := He.glo_ok X G (Z.c.fact 75 (x := gloB "Ring") rfl),
    g_RowReader := He.glo_ok X G (Z.c.fact 76 (x := gloB "RowReader") rfl),
    g_Machine := He.glo_ok X G (Z.c.fact 77 (x := gloB "Machine") rfl),
    g_Recorder := He.glo_ok X G (Z.c.fact 78 (x := gloB "Recorder") rfl),
    t_OPERATORS := fun H => He.tupB_ok (Z.c.fact 82 (x := tupQ "OPERATORS" (opL.map He.Dv.str)) rfl) H }
theorem hd_R : RingT K := {
    cl := He.cls_ok (Z.c.fact 83 (x := clsB "Ring") rfl),
    na_recipes_given := He.noat_ok (Z.c.fact 85 (x := noatB "Ring" "recipes_given") rfl),
    na_faults_withstood := He.noat_ok (Z.c.fact 86 (x := noatB "Ring" "faults_withstood") rfl),
    na_copy_count := He.noat_ok (Z.c.fact 87 (x := noatB "Ring" "copy_count") rfl),
    na_piece_lengths := He.noat_ok (Z.c.fact 88 (x := noatB "Ring" "piece_lengths") rfl),
    na_row_list := He.noat_ok (Z.c.fact 89 (x := noatB "Ring" "row_list") rfl),
    reg := conB_ok (Z.c.fact 116 (x := conB cR "REGISTERS" (.int 32)) rfl) }
theorem hd_D : ReaderT K := {
    cl := He.cls_ok (Z.c.fact 90 (x := clsB "RowReader") rfl),
    na_values_given := He.noat_ok (Z.c.fact 92 (x := noatB "RowReader" "values_given") rfl),
    na_word_count := He.noat_ok (Z.c.fact 93 (x := noatB "RowReader" "word_count") rfl),
    na_index := He.noat_ok (Z.c.fact 94 (x := noatB "RowReader" "index") rfl) }
theorem hd_M : MachT K (cM K) := {
    cl := He.cls_ok (Z.c.fact 95 (x := clsB "Machine") rfl),
    na_ring_executed := He.noat_ok (Z.c.fact 97 (x := noatB "Machine" "ring_executed") rfl),
    na_rows_listed := He.noat_ok (Z.c.fact 98 (x := noatB "Machine" "rows_listed") rfl),
    na_memory_words := He.noat_ok (Z.c.fact 99 (x := noatB "Machine" "memory_words") rfl),
    na_register_words := He.noat_ok (Z.c.fact 100 (x := noatB "Machine" "register_words") rfl),
    na_next_row := He.noat_ok (Z.c.fact 101 (x := noatB "Machine" "next_row") rfl),
    na_rows_done := He.noat_ok (Z.c.fact 102 (x := noatB "Machine" "rows_done") rfl),
    na_faults_done := He.noat_ok (Z.c.fact 103 (x := noatB "Machine" "faults_done") rfl),
    na_copies_affected := He.noat_ok (Z.c.fact 104 (x := noatB "Machine" "copies_affected") rfl) }
theorem hd_C : MachT K (cC K) := {
    cl := He.cls_ok (Z.c.fact 105 (x := clsB "Recorder") rfl),
    na_ring_executed := He.noat_ok (Z.c.fact 107 (x := noatB "Recorder" "ring_executed") rfl),
    na_rows_listed := He.noat_ok (Z.c.fact 108 (x := noatB "Recorder" "rows_listed") rfl),
    na_memory_words := He.noat_ok (Z.c.fact 109 (x := noatB "Recorder" "memory_words") rfl),
    na_register_words := He.noat_ok (Z.c.fact 110 (x := noatB "Recorder" "register_words") rfl),
    na_next_row := He.noat_ok (Z.c.fact 111 (x := noatB "Recorder" "next_row") rfl),
    na_rows_done := He.noat_ok (Z.c.fact 112 (x := noatB "Recorder" "rows_done") rfl),
    na_faults_done := He.noat_ok (Z.c.fact 113 (x := noatB "Recorder" "faults_done") rfl),
    na_copies_affected := He.noat_ok (Z.c.fact 114 (x := noatB "Recorder" "copies_affected") rfl) }
theorem hd_na : NoAttr K (cC K) "faults_noted" := He.noat_ok (Z.c.fact 115 (x := noatB "Recorder" "faults_noted") rfl)
theorem hg_is_integer : mg "is_integer" = some (.ref (He.ga K "is_integer")) := by
  obtain ⟨h, X, G⟩ := Z.h
  exact He.glo_ok X G (Z.c.fact 33 (x := gloB "is_integer") rfl)
theorem hg_is_word : mg "is_word" = some (.ref (He.ga K "is_word")) := by
  obtain ⟨h, X, G⟩ := Z.h
  exact He.glo_ok X G (Z.c.fact 34 (x := gloB "is_word") rfl)
theorem hg_operator_value : mg "operator_value" = some (.ref (He.ga K "operator_value")) := by
  obtain ⟨h, X, G⟩ := Z.h
  exact He.glo_ok X G (Z.c.fact 35 (x := gloB "operator_value") rfl)
theorem hg_is_number_below : mg "is_number_below" = some (.ref (He.ga K "is_number_below")) := by
  obtain ⟨h, X, G⟩ := Z.h
  exact He.glo_ok X G (Z.c.fact 36 (x := gloB "is_number_below") rfl)
theorem hg_is_register : mg "is_register" = some (.ref (He.ga K "is_register")) := by
  obtain ⟨h, X, G⟩ := Z.h
  exact He.glo_ok X G (Z.c.fact 37 (x := gloB "is_register") rfl)
theorem hg_many_sources : mg "many_sources" = some (.ref (He.ga K "many_sources")) := by
  obtain ⟨h, X, G⟩ := Z.h
  exact He.glo_ok X G (Z.c.fact 38 (x := gloB "many_sources") rfl)
theorem hg_is_recipe_row : mg "is_recipe_row" = some (.ref (He.ga K "is_recipe_row")) := by
  obtain ⟨h, X, G⟩ := Z.h
  exact He.glo_ok X G (Z.c.fact 39 (x := gloB "is_recipe_row") rfl)
theorem hg_is_recipe : mg "is_recipe" = some (.ref (He.ga K "is_recipe")) := by
  obtain ⟨h, X, G⟩ := Z.h
  exact He.glo_ok X G (Z.c.fact 40 (x := gloB "is_recipe") rfl)
theorem hg_is_recipes : mg "is_recipes" = some (.ref (He.ga K "is_recipes")) := by
  obtain ⟨h, X, G⟩ := Z.h
  exact He.glo_ok X G (Z.c.fact 41 (x := gloB "is_recipes") rfl)
theorem hg_is_number : mg "is_number" = some (.ref (He.ga K "is_number")) := by
  obtain ⟨h, X, G⟩ := Z.h
  exact He.glo_ok X G (Z.c.fact 42 (x := gloB "is_number") rfl)
theorem hg_store_addresses : mg "store_addresses" = some (.ref (He.ga K "store_addresses")) := by
  obtain ⟨h, X, G⟩ := Z.h
  exact He.glo_ok X G (Z.c.fact 43 (x := gloB "store_addresses") rfl)
theorem hg_counting_rows : mg "counting_rows" = some (.ref (He.ga K "counting_rows")) := by
  obtain ⟨h, X, G⟩ := Z.h
  exact He.glo_ok X G (Z.c.fact 44 (x := gloB "counting_rows") rfl)
theorem hg_placed_row : mg "placed_row" = some (.ref (He.ga K "placed_row")) := by
  obtain ⟨h, X, G⟩ := Z.h
  exact He.glo_ok X G (Z.c.fact 45 (x := gloB "placed_row") rfl)
theorem hg_choosing_rows : mg "choosing_rows" = some (.ref (He.ga K "choosing_rows")) := by
  obtain ⟨h, X, G⟩ := Z.h
  exact He.glo_ok X G (Z.c.fact 46 (x := gloB "choosing_rows") rfl)
theorem hg_piece_p : mg "piece_p" = some (.ref (He.ga K "piece_p")) := by
  obtain ⟨h, X, G⟩ := Z.h
  exact He.glo_ok X G (Z.c.fact 47 (x := gloB "piece_p") rfl)
theorem hg_vote_rows : mg "vote_rows" = some (.ref (He.ga K "vote_rows")) := by
  obtain ⟨h, X, G⟩ := Z.h
  exact He.glo_ok X G (Z.c.fact 48 (x := gloB "vote_rows") rfl)
theorem hg_piece_q : mg "piece_q" = some (.ref (He.ga K "piece_q")) := by
  obtain ⟨h, X, G⟩ := Z.h
  exact He.glo_ok X G (Z.c.fact 49 (x := gloB "piece_q") rfl)
theorem hg_is_index : mg "is_index" = some (.ref (He.ga K "is_index")) := by
  obtain ⟨h, X, G⟩ := Z.h
  exact He.glo_ok X G (Z.c.fact 50 (x := gloB "is_index") rfl)
theorem hg_is_fault : mg "is_fault" = some (.ref (He.ga K "is_fault")) := by
  obtain ⟨h, X, G⟩ := Z.h
  exact He.glo_ok X G (Z.c.fact 51 (x := gloB "is_fault") rfl)
theorem hg_copy_of_address : mg "copy_of_address" = some (.ref (He.ga K "copy_of_address")) := by
  obtain ⟨h, X, G⟩ := Z.h
  exact He.glo_ok X G (Z.c.fact 52 (x := gloB "copy_of_address") rfl)
theorem hg_affected_by : mg "affected_by" = some (.ref (He.ga K "affected_by")) := by
  obtain ⟨h, X, G⟩ := Z.h
  exact He.glo_ok X G (Z.c.fact 53 (x := gloB "affected_by") rfl)
theorem hg_store_at : mg "store_at" = some (.ref (He.ga K "store_at")) := by
  obtain ⟨h, X, G⟩ := Z.h
  exact He.glo_ok X G (Z.c.fact 54 (x := gloB "store_at") rfl)
theorem hg_is_whole : mg "is_whole" = some (.ref (He.ga K "is_whole")) := by
  obtain ⟨h, X, G⟩ := Z.h
  exact He.glo_ok X G (Z.c.fact 55 (x := gloB "is_whole") rfl)
theorem hg_stores_of : mg "stores_of" = some (.ref (He.ga K "stores_of")) := by
  obtain ⟨h, X, G⟩ := Z.h
  exact He.glo_ok X G (Z.c.fact 56 (x := gloB "stores_of") rfl)
theorem hg_held : mg "held" = some (.ref (He.ga K "held")) := by
  obtain ⟨h, X, G⟩ := Z.h
  exact He.glo_ok X G (Z.c.fact 57 (x := gloB "held") rfl)
theorem hg_reading : mg "reading" = some (.ref (He.ga K "reading")) := by
  obtain ⟨h, X, G⟩ := Z.h
  exact He.glo_ok X G (Z.c.fact 58 (x := gloB "reading") rfl)
theorem hg__law_deck : mg "_law_deck" = some (.ref (He.ga K "_law_deck")) := by
  obtain ⟨h, X, G⟩ := Z.h
  exact He.glo_ok X G (Z.c.fact 59 (x := gloB "_law_deck") rfl)
theorem hg__law_draw : mg "_law_draw" = some (.ref (He.ga K "_law_draw")) := by
  obtain ⟨h, X, G⟩ := Z.h
  exact He.glo_ok X G (Z.c.fact 60 (x := gloB "_law_draw") rfl)
theorem hg__law_pick : mg "_law_pick" = some (.ref (He.ga K "_law_pick")) := by
  obtain ⟨h, X, G⟩ := Z.h
  exact He.glo_ok X G (Z.c.fact 61 (x := gloB "_law_pick") rfl)
theorem hg__law_word : mg "_law_word" = some (.ref (He.ga K "_law_word")) := by
  obtain ⟨h, X, G⟩ := Z.h
  exact He.glo_ok X G (Z.c.fact 62 (x := gloB "_law_word") rfl)
theorem hg__law_recipe : mg "_law_recipe" = some (.ref (He.ga K "_law_recipe")) := by
  obtain ⟨h, X, G⟩ := Z.h
  exact He.glo_ok X G (Z.c.fact 63 (x := gloB "_law_recipe") rfl)
theorem hg__law_counting : mg "_law_counting" = some (.ref (He.ga K "_law_counting")) := by
  obtain ⟨h, X, G⟩ := Z.h
  exact He.glo_ok X G (Z.c.fact 64 (x := gloB "_law_counting") rfl)
theorem hg__law_stores : mg "_law_stores" = some (.ref (He.ga K "_law_stores")) := by
  obtain ⟨h, X, G⟩ := Z.h
  exact He.glo_ok X G (Z.c.fact 65 (x := gloB "_law_stores") rfl)
theorem hg__law_p : mg "_law_p" = some (.ref (He.ga K "_law_p")) := by
  obtain ⟨h, X, G⟩ := Z.h
  exact He.glo_ok X G (Z.c.fact 66 (x := gloB "_law_p") rfl)
theorem hg__law_q : mg "_law_q" = some (.ref (He.ga K "_law_q")) := by
  obtain ⟨h, X, G⟩ := Z.h
  exact He.glo_ok X G (Z.c.fact 67 (x := gloB "_law_q") rfl)
theorem hg__law_rows : mg "_law_rows" = some (.ref (He.ga K "_law_rows")) := by
  obtain ⟨h, X, G⟩ := Z.h
  exact He.glo_ok X G (Z.c.fact 68 (x := gloB "_law_rows") rfl)
theorem hg__law_counter : mg "_law_counter" = some (.ref (He.ga K "_law_counter")) := by
  obtain ⟨h, X, G⟩ := Z.h
  exact He.glo_ok X G (Z.c.fact 69 (x := gloB "_law_counter") rfl)
theorem hg__law_fault : mg "_law_fault" = some (.ref (He.ga K "_law_fault")) := by
  obtain ⟨h, X, G⟩ := Z.h
  exact He.glo_ok X G (Z.c.fact 70 (x := gloB "_law_fault") rfl)
theorem hg__law_seen : mg "_law_seen" = some (.ref (He.ga K "_law_seen")) := by
  obtain ⟨h, X, G⟩ := Z.h
  exact He.glo_ok X G (Z.c.fact 71 (x := gloB "_law_seen") rfl)
theorem hg__law_walked : mg "_law_walked" = some (.ref (He.ga K "_law_walked")) := by
  obtain ⟨h, X, G⟩ := Z.h
  exact He.glo_ok X G (Z.c.fact 72 (x := gloB "_law_walked") rfl)
theorem hg__law_beside_right : mg "_law_beside_right" = some (.ref (He.ga K "_law_beside_right")) := by
  obtain ⟨h, X, G⟩ := Z.h
  exact He.glo_ok X G (Z.c.fact 73 (x := gloB "_law_beside_right") rfl)
theorem hg_law : mg "law" = some (.ref (He.ga K "law")) := by
  obtain ⟨h, X, G⟩ := Z.h
  exact He.glo_ok X G (Z.c.fact 74 (x := gloB "law") rfl)
theorem hg_reading_reading : mg "reading_reading" = some (.ref (He.ga K "reading")) := by
  obtain ⟨h, X, G⟩ := Z.h
  have e := He.glo_ok X G (Z.c.fact 80 (x := gloB "reading_reading") rfl)
  rw [sameB_ok (Z.c.fact 81 (x := sameB "reading_reading" "reading") rfl)] at e
  exact e
theorem x_is_integer : ∃ fd, At K mg "is_integer" "is_integer" s_is_integer ["thing"] (He.ga K "is_integer") fd := by
  obtain ⟨fd, F⟩ := Z.c.def_ 0 (d := d_is_integer) rfl
  exact ⟨fd, fun_at (FunX.fn F) fun _ _ _ _ _ _ us hl => match us, hl with | [_], _ => rfl⟩
theorem x_is_word : ∃ fd, At K mg "is_word" "is_word" s_is_word ["thing"] (He.ga K "is_word") fd := by
  obtain ⟨fd, F⟩ := Z.c.def_ 1 (d := d_is_word) rfl
  exact ⟨fd, fun_at (FunX.fn F) fun _ _ _ _ _ _ us hl => match us, hl with | [_], _ => rfl⟩
theorem x_operator_value : ∃ fd, At K mg "operator_value" "operator_value" s_operator_value ["operator", "one", "other"] (He.ga K "operator_value") fd := by
  obtain ⟨fd, F⟩ := Z.c.def_ 2 (d := d_operator_value) rfl
  exact ⟨fd, fun_at (FunX.fn F) fun _ _ _ _ _ _ us hl => match us, hl with | [_, _, _], _ => rfl⟩
theorem x_is_number_below : ∃ fd, At K mg "is_number_below" "is_number_below" s_is_number_below ["thing", "bound"] (He.ga K "is_number_below") fd := by
  obtain ⟨fd, F⟩ := Z.c.def_ 3 (d := d_is_number_below) rfl
  exact ⟨fd, fun_at (FunX.fn F) fun _ _ _ _ _ _ us hl => match us, hl with | [_, _], _ => rfl⟩
theorem x_is_register : ∃ fd, At K mg "is_register" "is_register" s_is_register ["thing"] (He.ga K "is_register") fd := by
  obtain ⟨fd, F⟩ := Z.c.def_ 4 (d := d_is_register) rfl
  exact ⟨fd, fun_at (FunX.fn F) fun _ _ _ _ _ _ us hl => match us, hl with | [_], _ => rfl⟩
theorem x_many_sources : ∃ fd, At K mg "many_sources" "many_sources" s_many_sources ["word"] (He.ga K "many_sources") fd := by
  obtain ⟨fd, F⟩ := Z.c.def_ 5 (d := d_many_sources) rfl
  exact ⟨fd, fun_at (FunX.fn F) fun _ _ _ _ _ _ us hl => match us, hl with | [_], _ => rfl⟩
theorem x_is_recipe_row : ∃ fd, At K mg "is_recipe_row" "is_recipe_row" s_is_recipe_row ["thing", "size", "known"] (He.ga K "is_recipe_row") fd := by
  obtain ⟨fd, F⟩ := Z.c.def_ 6 (d := d_is_recipe_row) rfl
  exact ⟨fd, fun_at (FunX.fn F) fun _ _ _ _ _ _ us hl => match us, hl with | [_, _, _], _ => rfl⟩
theorem x_is_recipe : ∃ fd, At K mg "is_recipe" "is_recipe" s_is_recipe ["thing", "size"] (He.ga K "is_recipe") fd := by
  obtain ⟨fd, F⟩ := Z.c.def_ 7 (d := d_is_recipe) rfl
  exact ⟨fd, fun_at (FunX.fn F) fun _ _ _ _ _ _ us hl => match us, hl with | [_, _], _ => rfl⟩
theorem x_is_recipes : ∃ fd, At K mg "is_recipes" "is_recipes" s_is_recipes ["thing"] (He.ga K "is_recipes") fd := by
  obtain ⟨fd, F⟩ := Z.c.def_ 8 (d := d_is_recipes) rfl
  exact ⟨fd, fun_at (FunX.fn F) fun _ _ _ _ _ _ us hl => match us, hl with | [_], _ => rfl⟩
theorem x_is_number : ∃ fd, At K mg "is_number" "is_number" s_is_number ["value", "least", "most"] (He.ga K "is_number") fd := by
  obtain ⟨fd, F⟩ := Z.c.def_ 9 (d := d_is_number) rfl
  exact ⟨fd, fun_at (FunX.fn F) fun _ _ _ _ _ _ us hl => match us, hl with | [_, _, _], _ => rfl⟩
theorem x_store_addresses : ∃ fd, At K mg "store_addresses" "store_addresses" s_store_addresses ["size", "copy"] (He.ga K "store_addresses") fd := by
  obtain ⟨fd, F⟩ := Z.c.def_ 10 (d := d_store_addresses) rfl
  exact ⟨fd, fun_at (FunX.fn F) fun _ _ _ _ _ _ us hl => match us, hl with | [_, _], _ => rfl⟩
theorem x_counting_rows : ∃ fd, At K mg "counting_rows" "counting_rows" s_counting_rows ["old", "address"] (He.ga K "counting_rows") fd := by
  obtain ⟨fd, F⟩ := Z.c.def_ 11 (d := d_counting_rows) rfl
  exact ⟨fd, fun_at (FunX.fn F) fun _ _ _ _ _ _ us hl => match us, hl with | [_, _], _ => rfl⟩
theorem x_placed_row : ∃ fd, At K mg "placed_row" "placed_row" s_placed_row ["row", "old"] (He.ga K "placed_row") fd := by
  obtain ⟨fd, F⟩ := Z.c.def_ 12 (d := d_placed_row) rfl
  exact ⟨fd, fun_at (FunX.fn F) fun _ _ _ _ _ _ us hl => match us, hl with | [_, _], _ => rfl⟩
theorem x_choosing_rows : ∃ fd, At K mg "choosing_rows" "choosing_rows" s_choosing_rows ["index", "old", "new", "result"] (He.ga K "choosing_rows") fd := by
  obtain ⟨fd, F⟩ := Z.c.def_ 13 (d := d_choosing_rows) rfl
  exact ⟨fd, fun_at (FunX.fn F) fun _ _ _ _ _ _ us hl => match us, hl with | [_, _, _, _], _ => rfl⟩
theorem x_piece_p : ∃ fd, At K mg "piece_p" "piece_p" s_piece_p ["recipes", "copy"] (He.ga K "piece_p") fd := by
  obtain ⟨fd, F⟩ := Z.c.def_ 14 (d := d_piece_p) rfl
  exact ⟨fd, fun_at (FunX.fn F) fun _ _ _ _ _ _ us hl => match us, hl with | [_, _], _ => rfl⟩
theorem x_vote_rows : ∃ fd, At K mg "vote_rows" "vote_rows" s_vote_rows ["news", "faults", "length", "look", "best", "source"] (He.ga K "vote_rows") fd := by
  obtain ⟨fd, F⟩ := Z.c.def_ 15 (d := d_vote_rows) rfl
  exact ⟨fd, fun_at (FunX.fn F) fun _ _ _ _ _ _ us hl => match us, hl with | [_, _, _, _, _, _], _ => rfl⟩
theorem x_piece_q : ∃ fd, At K mg "piece_q" "piece_q" s_piece_q ["size", "faults", "copies", "copy"] (He.ga K "piece_q") fd := by
  obtain ⟨fd, F⟩ := Z.c.def_ 16 (d := d_piece_q) rfl
  exact ⟨fd, fun_at (FunX.fn F) fun _ _ _ _ _ _ us hl => match us, hl with | [_, _, _, _], _ => rfl⟩
theorem x_is_index : ∃ fd, At K mg "is_index" "is_index" s_is_index ["value", "count"] (He.ga K "is_index") fd := by
  obtain ⟨fd, F⟩ := Z.c.def_ 17 (d := d_is_index) rfl
  exact ⟨fd, fun_at (FunX.fn F) fun _ _ _ _ _ _ us hl => match us, hl with | [_, _], _ => rfl⟩
theorem x_is_fault : ∃ fd, At K mg "is_fault" "is_fault" s_is_fault ["ring", "thing"] (He.ga K "is_fault") fd := by
  obtain ⟨fd, F⟩ := Z.c.def_ 18 (d := d_is_fault) rfl
  exact ⟨fd, fun_at (FunX.fn F) fun _ _ _ _ _ _ us hl => match us, hl with | [_, _], _ => rfl⟩
theorem x_copy_of_address : ∃ fd, At K mg "copy_of_address" "copy_of_address" s_copy_of_address ["ring", "address"] (He.ga K "copy_of_address") fd := by
  obtain ⟨fd, F⟩ := Z.c.def_ 19 (d := d_copy_of_address) rfl
  exact ⟨fd, fun_at (FunX.fn F) fun _ _ _ _ _ _ us hl => match us, hl with | [_, _], _ => rfl⟩
theorem x_affected_by : ∃ fd, At K mg "affected_by" "affected_by" s_affected_by ["ring", "row", "fault"] (He.ga K "affected_by") fd := by
  obtain ⟨fd, F⟩ := Z.c.def_ 20 (d := d_affected_by) rfl
  exact ⟨fd, fun_at (FunX.fn F) fun _ _ _ _ _ _ us hl => match us, hl with | [_, _, _], _ => rfl⟩
theorem x_store_at : ∃ fd, At K mg "store_at" "store_at" s_store_at ["memory", "address", "length"] (He.ga K "store_at") fd := by
  obtain ⟨fd, F⟩ := Z.c.def_ 21 (d := d_store_at) rfl
  exact ⟨fd, fun_at (FunX.fn F) fun _ _ _ _ _ _ us hl => match us, hl with | [_, _, _], _ => rfl⟩
theorem x_is_whole : ∃ fd, At K mg "is_whole" "is_whole" s_is_whole ["store"] (He.ga K "is_whole") fd := by
  obtain ⟨fd, F⟩ := Z.c.def_ 22 (d := d_is_whole) rfl
  exact ⟨fd, fun_at (FunX.fn F) fun _ _ _ _ _ _ us hl => match us, hl with | [_], _ => rfl⟩
theorem x_stores_of : ∃ fd, At K mg "stores_of" "stores_of" s_stores_of ["ring", "memory", "copy"] (He.ga K "stores_of") fd := by
  obtain ⟨fd, F⟩ := Z.c.def_ 23 (d := d_stores_of) rfl
  exact ⟨fd, fun_at (FunX.fn F) fun _ _ _ _ _ _ us hl => match us, hl with | [_, _, _], _ => rfl⟩
theorem x_held : ∃ fd, At K mg "held" "held" s_held ["ring", "memory", "copy"] (He.ga K "held") fd := by
  obtain ⟨fd, F⟩ := Z.c.def_ 24 (d := d_held) rfl
  exact ⟨fd, fun_at (FunX.fn F) fun _ _ _ _ _ _ us hl => match us, hl with | [_, _, _], _ => rfl⟩
theorem x_reading : ∃ fd, At K mg "reading" "reading" s_reading ["ring", "memory"] (He.ga K "reading") fd := by
  obtain ⟨fd, F⟩ := Z.c.def_ 25 (d := d_reading) rfl
  exact ⟨fd, fun_at (FunX.fn F) fun _ _ _ _ _ _ us hl => match us, hl with | [_, _], _ => rfl⟩
theorem x__law_deck : ∃ fd, At K mg "_law_deck" "_law_deck" s__law_deck ["_law_script"] (He.ga K "_law_deck") fd := by
  obtain ⟨fd, F⟩ := Z.c.def_ 26 (d := d__law_deck) rfl
  exact ⟨fd, fun_at (FunX.fn F) fun _ _ _ _ _ _ us hl => match us, hl with | [_], _ => rfl⟩
theorem x__law_draw : ∃ fd, At K mg "_law_draw" "_law_draw" s__law_draw ["_law_deck_here", "_law_many"] (He.ga K "_law_draw") fd := by
  obtain ⟨fd, F⟩ := Z.c.def_ 27 (d := d__law_draw) rfl
  exact ⟨fd, fun_at (FunX.fn F) fun _ _ _ _ _ _ us hl => match us, hl with | [_, _], _ => rfl⟩
theorem x__law_pick : ∃ fd, At K mg "_law_pick" "_law_pick" s__law_pick ["_law_deck_here", "_law_items"] (He.ga K "_law_pick") fd := by
  obtain ⟨fd, F⟩ := Z.c.def_ 28 (d := d__law_pick) rfl
  exact ⟨fd, fun_at (FunX.fn F) fun _ _ _ _ _ _ us hl => match us, hl with | [_, _], _ => rfl⟩
theorem x__law_word : ∃ fd, At K mg "_law_word" "_law_word" s__law_word ["_law_deck_here"] (He.ga K "_law_word") fd := by
  obtain ⟨fd, F⟩ := Z.c.def_ 29 (d := d__law_word) rfl
  exact ⟨fd, fun_at (FunX.fn F) fun _ _ _ _ _ _ us hl => match us, hl with | [_], _ => rfl⟩
theorem x__law_recipe : ∃ fd, At K mg "_law_recipe" "_law_recipe" s__law_recipe ["_law_deck_here", "_law_many", "_law_most"] (He.ga K "_law_recipe") fd := by
  obtain ⟨fd, F⟩ := Z.c.def_ 30 (d := d__law_recipe) rfl
  exact ⟨fd, fun_at (FunX.fn F) fun _ _ _ _ _ _ us hl => match us, hl with | [_, _, _], _ => rfl⟩
theorem x__law_counting : ∃ fd, At K mg "_law_counting" "_law_counting" s__law_counting ["_law_old", "_law_to"] (He.ga K "_law_counting") fd := by
  obtain ⟨fd, F⟩ := Z.c.def_ 31 (d := d__law_counting) rfl
  exact ⟨fd, fun_at (FunX.fn F) fun _ _ _ _ _ _ us hl => match us, hl with | [_, _], _ => rfl⟩
theorem x__law_stores : ∃ fd, At K mg "_law_stores" "_law_stores" s__law_stores ["_law_many", "_law_copy"] (He.ga K "_law_stores") fd := by
  obtain ⟨fd, F⟩ := Z.c.def_ 32 (d := d__law_stores) rfl
  exact ⟨fd, fun_at (FunX.fn F) fun _ _ _ _ _ _ us hl => match us, hl with | [_, _], _ => rfl⟩
theorem x__law_p : ∃ fd, At K mg "_law_p" "_law_p" s__law_p ["_law_given", "_law_copy"] (He.ga K "_law_p") fd := by
  obtain ⟨fd, F⟩ := Z.c.def_ 33 (d := d__law_p) rfl
  exact ⟨fd, fun_at (FunX.fn F) fun _ _ _ _ _ _ us hl => match us, hl with | [_, _], _ => rfl⟩
theorem x__law_q : ∃ fd, At K mg "_law_q" "_law_q" s__law_q ["_law_many", "_law_e", "_law_count", "_law_copy"] (He.ga K "_law_q") fd := by
  obtain ⟨fd, F⟩ := Z.c.def_ 34 (d := d__law_q) rfl
  exact ⟨fd, fun_at (FunX.fn F) fun _ _ _ _ _ _ us hl => match us, hl with | [_, _, _, _], _ => rfl⟩
theorem x__law_rows : ∃ fd, At K mg "_law_rows" "_law_rows" s__law_rows ["_law_given", "_law_e", "_law_count"] (He.ga K "_law_rows") fd := by
  obtain ⟨fd, F⟩ := Z.c.def_ 35 (d := d__law_rows) rfl
  exact ⟨fd, fun_at (FunX.fn F) fun _ _ _ _ _ _ us hl => match us, hl with | [_, _, _], _ => rfl⟩
theorem x__law_counter : ∃ fd, At K mg "_law_counter" "_law_counter" s__law_counter ["_law_deck_here", "_law_most", "_law_more"] (He.ga K "_law_counter") fd := by
  obtain ⟨fd, F⟩ := Z.c.def_ 36 (d := d__law_counter) rfl
  exact ⟨fd, fun_at (FunX.fn F) fun _ _ _ _ _ _ us hl => match us, hl with | [_, _, _], _ => rfl⟩
theorem x__law_fault : ∃ fd, At K mg "_law_fault" "_law_fault" s__law_fault ["_law_deck_here", "_law_ring", "_law_count", "_law_many"] (He.ga K "_law_fault") fd := by
  obtain ⟨fd, F⟩ := Z.c.def_ 37 (d := d__law_fault) rfl
  exact ⟨fd, fun_at (FunX.fn F) fun _ _ _ _ _ _ us hl => match us, hl with | [_, _, _, _], _ => rfl⟩
theorem x__law_seen : ∃ fd, At K mg "_law_seen" "_law_seen" s__law_seen ["_law_machine"] (He.ga K "_law_seen") fd := by
  obtain ⟨fd, F⟩ := Z.c.def_ 38 (d := d__law_seen) rfl
  exact ⟨fd, fun_at (FunX.fn F) fun _ _ _ _ _ _ us hl => match us, hl with | [_], _ => rfl⟩
theorem x__law_walked : ∃ fd, At K mg "_law_walked" "_law_walked" s__law_walked ["_law_machine", "_law_number"] (He.ga K "_law_walked") fd := by
  obtain ⟨fd, F⟩ := Z.c.def_ 39 (d := d__law_walked) rfl
  exact ⟨fd, fun_at (FunX.fn F) fun _ _ _ _ _ _ us hl => match us, hl with | [_, _], _ => rfl⟩
theorem x__law_beside_right : ∃ fd, At K mg "_law_beside_right" "_law_beside_right" s__law_beside_right ["_law_deck_here", "_law_ring", "_law_read", "_law_first", "_law_count"] (He.ga K "_law_beside_right") fd := by
  obtain ⟨fd, F⟩ := Z.c.def_ 40 (d := d__law_beside_right) rfl
  exact ⟨fd, fun_at (FunX.fn F) fun _ _ _ _ _ _ us hl => match us, hl with | [_, _, _, _, _], _ => rfl⟩
theorem x_law : ∃ fd, At K mg "law" "law" s_law ["_law_script"] (He.ga K "law") fd := by
  obtain ⟨fd, F⟩ := Z.c.def_ 41 (d := d_law) rfl
  exact ⟨fd, fun_at (FunX.fn F) fun _ _ _ _ _ _ us hl => match us, hl with | [_], _ => rfl⟩
theorem x_Ring_init : ∃ fd, Fun K "__init__" "Ring.__init__" s_Ring_init (He.ma K (cR K) "__init__") fd := by
  obtain ⟨fd, F⟩ := Z.c.def_ 42 (d := d_Ring_init) rfl
  exact ⟨fd, FunX.fn F⟩
theorem x_Ring_len : ∃ fd, At K mg "__len__" "Ring.__len__" s_Ring_len ["self"] (He.ma K (cR K) "__len__") fd := by
  obtain ⟨fd, F⟩ := Z.c.def_ 43 (d := d_Ring_len) rfl
  exact ⟨fd, fun_at (FunX.fn F) fun _ _ _ _ _ _ us hl => match us, hl with | [_], _ => rfl⟩
theorem x_Ring_piece_at : ∃ fd, At K mg "piece_at" "Ring.piece_at" s_Ring_piece_at ["self", "row"] (He.ma K (cR K) "piece_at") fd := by
  obtain ⟨fd, F⟩ := Z.c.def_ 44 (d := d_Ring_piece_at) rfl
  exact ⟨fd, fun_at (FunX.fn F) fun _ _ _ _ _ _ us hl => match us, hl with | [_, _], _ => rfl⟩
theorem x_Ring_first_memory : ∃ fd, At K mg "first_memory" "Ring.first_memory" s_Ring_first_memory ["self", "state"] (He.ma K (cR K) "first_memory") fd := by
  obtain ⟨fd, F⟩ := Z.c.def_ 45 (d := d_Ring_first_memory) rfl
  exact ⟨fd, fun_at (FunX.fn F) fun _ _ _ _ _ _ us hl => match us, hl with | [_, _], _ => rfl⟩
theorem x_Ring_faults : ∃ fd, Fun K "faults" "Ring.faults" s_Ring_faults (rcP cR "property" "faults" K) fd := by
  obtain ⟨fd, F⟩ := Z.c.def_ 46 (d := d_Ring_faults) rfl
  exact ⟨fd, FunX.fn F⟩
theorem x_Ring_copies : ∃ fd, Fun K "copies" "Ring.copies" s_Ring_copies (rcP cR "property" "copies" K) fd := by
  obtain ⟨fd, F⟩ := Z.c.def_ 47 (d := d_Ring_copies) rfl
  exact ⟨fd, FunX.fn F⟩
theorem x_Ring_size : ∃ fd, Fun K "size" "Ring.size" s_Ring_size (rcP cR "property" "size" K) fd := by
  obtain ⟨fd, F⟩ := Z.c.def_ 48 (d := d_Ring_size) rfl
  exact ⟨fd, FunX.fn F⟩
theorem x_Ring_rows : ∃ fd, Fun K "rows" "Ring.rows" s_Ring_rows (rcP cR "property" "rows" K) fd := by
  obtain ⟨fd, F⟩ := Z.c.def_ 49 (d := d_Ring_rows) rfl
  exact ⟨fd, FunX.fn F⟩
theorem x_Ring_words : ∃ fd, Fun K "words" "Ring.words" s_Ring_words (rcP cR "property" "words" K) fd := by
  obtain ⟨fd, F⟩ := Z.c.def_ 50 (d := d_Ring_words) rfl
  exact ⟨fd, FunX.fn F⟩
theorem x_RowReader_init : ∃ fd, At K mg "__init__" "RowReader.__init__" s_RowReader_init ["self", "rows", "size"] (He.ma K (cD K) "__init__") fd := by
  obtain ⟨fd, F⟩ := Z.c.def_ 51 (d := d_RowReader_init) rfl
  exact ⟨fd, fun_at (FunX.fn F) fun _ _ _ _ _ _ us hl => match us, hl with | [_, _, _], _ => rfl⟩
theorem x_RowReader_peek : ∃ fd, At K mg "peek" "RowReader.peek" s_RowReader_peek ["self"] (He.ma K (cD K) "peek") fd := by
  obtain ⟨fd, F⟩ := Z.c.def_ 52 (d := d_RowReader_peek) rfl
  exact ⟨fd, fun_at (FunX.fn F) fun _ _ _ _ _ _ us hl => match us, hl with | [_], _ => rfl⟩
theorem x_RowReader_expect : ∃ fd, At K mg "expect" "RowReader.expect" s_RowReader_expect ["self", "row"] (He.ma K (cD K) "expect") fd := by
  obtain ⟨fd, F⟩ := Z.c.def_ 53 (d := d_RowReader_expect) rfl
  exact ⟨fd, fun_at (FunX.fn F) fun _ _ _ _ _ _ us hl => match us, hl with | [_, _], _ => rfl⟩
theorem x_RowReader_read_result : ∃ fd, At K mg "read_result" "RowReader.read_result" s_RowReader_read_result ["self", "known"] (He.ma K (cD K) "read_result") fd := by
  obtain ⟨fd, F⟩ := Z.c.def_ 54 (d := d_RowReader_read_result) rfl
  exact ⟨fd, fun_at (FunX.fn F) fun _ _ _ _ _ _ us hl => match us, hl with | [_, _], _ => rfl⟩
theorem x_RowReader_read_step : ∃ fd, At K mg "read_step" "RowReader.read_step" s_RowReader_read_step ["self", "known", "old"] (He.ma K (cD K) "read_step") fd := by
  obtain ⟨fd, F⟩ := Z.c.def_ 55 (d := d_RowReader_read_step) rfl
  exact ⟨fd, fun_at (FunX.fn F) fun _ _ _ _ _ _ us hl => match us, hl with | [_, _, _], _ => rfl⟩
theorem x_RowReader_read_recipe : ∃ fd, At K mg "read_recipe" "RowReader.read_recipe" s_RowReader_read_recipe ["self", "index", "old", "new"] (He.ma K (cD K) "read_recipe") fd := by
  obtain ⟨fd, F⟩ := Z.c.def_ 56 (d := d_RowReader_read_recipe) rfl
  exact ⟨fd, fun_at (FunX.fn F) fun _ _ _ _ _ _ us hl => match us, hl with | [_, _, _, _], _ => rfl⟩
theorem x_RowReader_read_recipes : ∃ fd, At K mg "read_recipes" "RowReader.read_recipes" s_RowReader_read_recipes ["self"] (He.ma K (cD K) "read_recipes") fd := by
  obtain ⟨fd, F⟩ := Z.c.def_ 57 (d := d_RowReader_read_recipes) rfl
  exact ⟨fd, fun_at (FunX.fn F) fun _ _ _ _ _ _ us hl => match us, hl with | [_], _ => rfl⟩
theorem x_Machine_init : ∃ fd, At K mg "__init__" "Machine.__init__" s_Machine_init ["self", "ring", "first"] (He.ma K (cM K) "__init__") fd := by
  obtain ⟨fd, F⟩ := Z.c.def_ 58 (d := d_Machine_init) rfl
  exact ⟨fd, fun_at (FunX.fn F) fun _ _ _ _ _ _ us hl => match us, hl with | [_, _, _], _ => rfl⟩
theorem x_Machine_execute : ∃ fd, At K mg "execute" "Machine.execute" s_Machine_execute ["self", "row"] (He.ma K (cM K) "execute") fd := by
  obtain ⟨fd, F⟩ := Z.c.def_ 59 (d := d_Machine_execute) rfl
  exact ⟨fd, fun_at (FunX.fn F) fun _ _ _ _ _ _ us hl => match us, hl with | [_, _], _ => rfl⟩
theorem x_Machine_execute_next : ∃ fd, At K mg "execute_next" "Machine.execute_next" s_Machine_execute_next ["self"] (He.ma K (cM K) "execute_next") fd := by
  obtain ⟨fd, F⟩ := Z.c.def_ 60 (d := d_Machine_execute_next) rfl
  exact ⟨fd, fun_at (FunX.fn F) fun _ _ _ _ _ _ us hl => match us, hl with | [_], _ => rfl⟩
theorem x_Machine_run : ∃ fd, At K mg "run" "Machine.run" s_Machine_run ["self", "many"] (He.ma K (cM K) "run") fd := by
  obtain ⟨fd, F⟩ := Z.c.def_ 61 (d := d_Machine_run) rfl
  exact ⟨fd, fun_at (FunX.fn F) fun _ _ _ _ _ _ us hl => match us, hl with | [_, _], _ => rfl⟩
theorem x_Machine_walk : ∃ fd, At K mg "walk" "Machine.walk" s_Machine_walk ["self", "many"] (He.ma K (cM K) "walk") fd := by
  obtain ⟨fd, F⟩ := Z.c.def_ 62 (d := d_Machine_walk) rfl
  exact ⟨fd, fun_at (FunX.fn F) fun _ _ _ _ _ _ us hl => match us, hl with | [_, _], _ => rfl⟩
theorem x_Machine_changes_anything : ∃ fd, At K mg "changes_anything" "Machine.changes_anything" s_Machine_changes_anything ["self", "fault"] (He.ma K (cM K) "changes_anything") fd := by
  obtain ⟨fd, F⟩ := Z.c.def_ 63 (d := d_Machine_changes_anything) rfl
  exact ⟨fd, fun_at (FunX.fn F) fun _ _ _ _ _ _ us hl => match us, hl with | [_, _], _ => rfl⟩
theorem x_Machine_note : ∃ fd, At K mg "note" "Machine.note" s_Machine_note ["self", "fault"] (He.ma K (cM K) "note") fd := by
  obtain ⟨fd, F⟩ := Z.c.def_ 64 (d := d_Machine_note) rfl
  exact ⟨fd, fun_at (FunX.fn F) fun _ _ _ _ _ _ us hl => match us, hl with | [_, _], _ => rfl⟩
theorem x_Machine_suffer : ∃ fd, At K mg "suffer" "Machine.suffer" s_Machine_suffer ["self", "fault"] (He.ma K (cM K) "suffer") fd := by
  obtain ⟨fd, F⟩ := Z.c.def_ 65 (d := d_Machine_suffer) rfl
  exact ⟨fd, fun_at (FunX.fn F) fun _ _ _ _ _ _ us hl => match us, hl with | [_, _], _ => rfl⟩
theorem x_Machine_strike : ∃ fd, Fun K "strike" "Machine.strike" s_Machine_strike (He.ma K (cM K) "strike") fd := by
  obtain ⟨fd, F⟩ := Z.c.def_ 66 (d := d_Machine_strike) rfl
  exact ⟨fd, FunX.fn F⟩
theorem x_Machine_play : ∃ fd, At K mg "play" "Machine.play" s_Machine_play ["self", "story", "executed"] (He.ma K (cM K) "play") fd := by
  obtain ⟨fd, F⟩ := Z.c.def_ 67 (d := d_Machine_play) rfl
  exact ⟨fd, fun_at (FunX.fn F) fun _ _ _ _ _ _ us hl => match us, hl with | [_, _, _], _ => rfl⟩
theorem x_Machine_memory : ∃ fd, Fun K "memory" "Machine.memory" s_Machine_memory (rcP cM "property" "memory" K) fd := by
  obtain ⟨fd, F⟩ := Z.c.def_ 68 (d := d_Machine_memory) rfl
  exact ⟨fd, FunX.fn F⟩
theorem x_Machine_registers : ∃ fd, Fun K "registers" "Machine.registers" s_Machine_registers (rcP cM "property" "registers" K) fd := by
  obtain ⟨fd, F⟩ := Z.c.def_ 69 (d := d_Machine_registers) rfl
  exact ⟨fd, FunX.fn F⟩
theorem x_Machine_executed : ∃ fd, Fun K "executed" "Machine.executed" s_Machine_executed (rcP cM "property" "executed" K) fd := by
  obtain ⟨fd, F⟩ := Z.c.def_ 70 (d := d_Machine_executed) rfl
  exact ⟨fd, FunX.fn F⟩
theorem x_Machine_fault_count : ∃ fd, Fun K "fault_count" "Machine.fault_count" s_Machine_fault_count (rcP cM "property" "fault_count" K) fd := by
  obtain ⟨fd, F⟩ := Z.c.def_ 71 (d := d_Machine_fault_count) rfl
  exact ⟨fd, FunX.fn F⟩
theorem x_Machine_affected : ∃ fd, Fun K "affected" "Machine.affected" s_Machine_affected (rcP cM "property" "affected" K) fd := by
  obtain ⟨fd, F⟩ := Z.c.def_ 72 (d := d_Machine_affected) rfl
  exact ⟨fd, FunX.fn F⟩
theorem x_Machine_reading : ∃ fd, Fun K "reading" "Machine.reading" s_Machine_reading (rcP cM "property" "reading" K) fd := by
  obtain ⟨fd, F⟩ := Z.c.def_ 73 (d := d_Machine_reading) rfl
  exact ⟨fd, FunX.fn F⟩
theorem x_Machine_row : ∃ fd, Fun K "row" "Machine.row" s_Machine_row (rcP cM "property" "row" K) fd := by
  obtain ⟨fd, F⟩ := Z.c.def_ 74 (d := d_Machine_row) rfl
  exact ⟨fd, FunX.fn F⟩
theorem x_Recorder_story : ∃ fd, Fun K "story" "Recorder.story" s_Recorder_story (rcP cC "property" "story" K) fd := by
  obtain ⟨fd, F⟩ := Z.c.def_ 77 (d := d_Recorder_story) rfl
  exact ⟨fd, FunX.fn F⟩
theorem x_Ring_read : ∃ fd, Fun K "read" "Ring.read" s_Ring_read (rcP cR "classmethod" "read" K) fd := by
  obtain ⟨fd, F⟩ := Z.c.def_ 78 (d := d_Ring_read) rfl
  exact ⟨fd, FunX.fn F⟩
end
end Sr
/-! The head: every def's promise. -/
namespace Sr
open PySem PySem.Spec PyProof.Rows L2
section
variable {P : Program} {w : World} {K : PySem.W.Frag} {mg : Str → Option Value} {base : Heap} (Z : Hd P K mg)
include Z
theorem z_g_is_integer : GF P w K mg base 1 "is_integer" ["thing"] sp_is_integer := by
  obtain ⟨fd, F⟩ := x_is_integer Z
  exact ⟨_, fd, hg_is_integer Z, F.fn.kp, F.bi, (ok_is_integer F (hd_T Z))⟩
theorem z_g_is_word : GF P w K mg base 2 "is_word" ["thing"] sp_is_word := by
  obtain ⟨fd, F⟩ := x_is_word Z
  exact ⟨_, fd, hg_is_word Z, F.fn.kp, F.bi, (ok_is_word F (hd_T Z) (z_g_is_integer Z))⟩
theorem z_g_operator_value : GF P w K mg base 1 "operator_value" ["operator", "one", "other"] sp_operator_value := by
  obtain ⟨fd, F⟩ := x_operator_value Z
  exact ⟨_, fd, hg_operator_value Z, F.fn.kp, F.bi, (ok_operator_value F (hd_T Z))⟩
theorem z_g_is_number_below : GF P w K mg base 2 "is_number_below" ["thing", "bound"] sp_is_number_below := by
  obtain ⟨fd, F⟩ := x_is_number_below Z
  exact ⟨_, fd, hg_is_number_below Z, F.fn.kp, F.bi, (ok_is_number_below F (hd_T Z) (z_g_is_integer Z))⟩
theorem z_g_is_register : GF P w K mg base 3 "is_register" ["thing"] sp_is_register := by
  obtain ⟨fd, F⟩ := x_is_register Z
  exact ⟨_, fd, hg_is_register Z, F.fn.kp, F.bi, (ok_is_register F (hd_T Z) (z_g_is_number_below Z))⟩
theorem z_g_is_number : GF P w K mg base 1 "is_number" ["value", "least", "most"] sp_is_number := by
  obtain ⟨fd, F⟩ := x_is_number Z
  exact ⟨_, fd, hg_is_number Z, F.fn.kp, F.bi, (ok_is_number F (hd_T Z))⟩
theorem z_g_is_index : GF P w K mg base 1 "is_index" ["value", "count"] sp_is_index := by
  obtain ⟨fd, F⟩ := x_is_index Z
  exact ⟨_, fd, hg_is_index Z, F.fn.kp, F.bi, (ok_is_index F (hd_T Z))⟩
theorem z_g_many_sources : GF P w K mg base 1 "many_sources" ["word"] sp_many_sources := by
  obtain ⟨fd, F⟩ := x_many_sources Z
  exact ⟨_, fd, hg_many_sources Z, F.fn.kp, F.bi, (ok_many_sources F (hd_T Z))⟩
theorem z_g_store_addresses : GF P w K mg base 1 "store_addresses" ["size", "copy"] sp_store_addresses := by
  obtain ⟨fd, F⟩ := x_store_addresses Z
  exact ⟨_, fd, hg_store_addresses Z, F.fn.kp, F.bi, (ok_store_addresses F (hd_T Z))⟩
theorem z_g_counting_rows : GF P w K mg base 1 "counting_rows" ["old", "address"] sp_counting_rows := by
  obtain ⟨fd, F⟩ := x_counting_rows Z
  exact ⟨_, fd, hg_counting_rows Z, F.fn.kp, F.bi, (ok_counting_rows F (hd_T Z))⟩
theorem z_g_choosing_rows : GF P w K mg base 1 "choosing_rows" ["index", "old", "new", "result"] sp_choosing_rows := by
  obtain ⟨fd, F⟩ := x_choosing_rows Z
  exact ⟨_, fd, hg_choosing_rows Z, F.fn.kp, F.bi, (ok_choosing_rows F (hd_T Z))⟩
theorem z_g_is_recipe_row : GF P w K mg base 4 "is_recipe_row" ["thing", "size", "known"] sp_is_recipe_row := by
  obtain ⟨fd, F⟩ := x_is_recipe_row Z
  exact ⟨_, fd, hg_is_recipe_row Z, F.fn.kp, F.bi, (ok_is_recipe_row F (hd_T Z) (z_g_is_register Z) (z_g_is_word Z) (z_g_is_number_below Z) (z_g_many_sources Z))⟩
theorem z_g_is_recipe : GF P w K mg base 5 "is_recipe" ["thing", "size"] sp_is_recipe := by
  obtain ⟨fd, F⟩ := x_is_recipe Z
  exact ⟨_, fd, hg_is_recipe Z, F.fn.kp, F.bi, (ok_is_recipe F (hd_T Z) (z_g_is_register Z) (z_g_is_recipe_row Z))⟩
theorem z_g_is_recipes : GF P w K mg base 6 "is_recipes" ["thing"] sp_is_recipes := by
  obtain ⟨fd, F⟩ := x_is_recipes Z
  exact ⟨_, fd, hg_is_recipes Z, F.fn.kp, F.bi, (ok_is_recipes F (hd_T Z) (z_g_is_recipe Z))⟩
theorem z_g_placed_row : GF P w K mg base 1 "placed_row" ["row", "old"] sp_placed_row := by
  obtain ⟨fd, F⟩ := x_placed_row Z
  exact ⟨_, fd, hg_placed_row Z, F.fn.kp, F.bi, (ok_placed_row F (hd_T Z))⟩
theorem z_g_piece_p : GF P w K mg base 2 "piece_p" ["recipes", "copy"] sp_piece_p := by
  obtain ⟨fd, F⟩ := x_piece_p Z
  exact ⟨_, fd, hg_piece_p Z, F.fn.kp, F.bi, (ok_piece_p F (hd_T Z) (z_g_store_addresses Z) (z_g_counting_rows Z) (z_g_choosing_rows Z) (z_g_placed_row Z))⟩
theorem z_g_vote_rows : GF P w K mg base 1 "vote_rows" ["news", "faults", "length", "look", "best", "source"] sp_vote_rows := by
  obtain ⟨fd, F⟩ := x_vote_rows Z
  exact ⟨_, fd, hg_vote_rows Z, F.fn.kp, F.bi, (ok_vote_rows F (hd_T Z))⟩
theorem z_g_piece_q : GF P w K mg base 2 "piece_q" ["size", "faults", "copies", "copy"] sp_piece_q := by
  obtain ⟨fd, F⟩ := x_piece_q Z
  exact ⟨_, fd, hg_piece_q Z, F.fn.kp, F.bi, (ok_piece_q F (hd_T Z) (z_g_store_addresses Z) (z_g_vote_rows Z))⟩
theorem z_g__law_counting : GF P w K mg base 1 "_law_counting" ["_law_old", "_law_to"] sp_counting_rows := by
  obtain ⟨fd, F⟩ := x__law_counting Z
  exact ⟨_, fd, hg__law_counting Z, F.fn.kp, F.bi, (ok__law_counting F (hd_T Z))⟩
theorem z_g__law_stores : GF P w K mg base 1 "_law_stores" ["_law_many", "_law_copy"] sp__law_stores := by
  obtain ⟨fd, F⟩ := x__law_stores Z
  exact ⟨_, fd, hg__law_stores Z, F.fn.kp, F.bi, (ok__law_stores F (hd_T Z))⟩
theorem z_g__law_p : GF P w K mg base 2 "_law_p" ["_law_given", "_law_copy"] sp_piece_p := by
  obtain ⟨fd, F⟩ := x__law_p Z
  exact ⟨_, fd, hg__law_p Z, F.fn.kp, F.bi, (ok__law_p F (hd_T Z) (z_g__law_stores Z) (z_g__law_counting Z))⟩
theorem z_g__law_q : GF P w K mg base 2 "_law_q" ["_law_many", "_law_e", "_law_count", "_law_copy"] sp_piece_q := by
  obtain ⟨fd, F⟩ := x__law_q Z
  exact ⟨_, fd, hg__law_q Z, F.fn.kp, F.bi, (ok__law_q F (hd_T Z) (z_g__law_stores Z))⟩
theorem z_g__law_rows : GF P w K mg base 3 "_law_rows" ["_law_given", "_law_e", "_law_count"] sp__law_rows := by
  obtain ⟨fd, F⟩ := x__law_rows Z
  exact ⟨_, fd, hg__law_rows Z, F.fn.kp, F.bi, (ok__law_rows F (hd_T Z) (z_g__law_p Z) (z_g__law_q Z))⟩
theorem z_k_Ring : GMkK P w K mg base 7 1 "Ring" (cR K) ["self", "recipes", "faults", "copies"] ["faults", "copies"] (sp_Ring_init (cR K)) := by
  obtain ⟨fd, F⟩ := x_Ring_init Z
  exact ⟨(hd_T Z).g_Ring, _, fd, He.mkr_ok (Z.c.fact 84 (x := mkrB "Ring") rfl), fun_kb F fun _ _ _ _ _ _ us ws hl hw => match us, hl, ws, hw with | [_, _], _, [_, _], _ => rfl, (ok_Ring_init F (hd_T Z) (hd_R Z) (z_g_is_recipes Z) (z_g_is_number Z) (z_g_piece_p Z) (z_g_piece_q Z))⟩
theorem z_p_cR_faults : GP P w K mg base 1 (cR K) "faults" (sp_Rn (cR K) fun _ e _ => e) := by
  obtain ⟨fd, F⟩ := x_Ring_faults Z
  exact ⟨He.cls_ok (Z.c.fact 83 (x := clsB "Ring") rfl), _, _, fd, propB_ok (Z.c.fact 120 (x := propB cR cR "faults") rfl), fun_bi F fun _ _ _ _ _ _ us hl => match us, hl with | [_], _ => rfl, (ok_Ring_faults F (hd_R Z))⟩
theorem z_p_cR_copies : GP P w K mg base 1 (cR K) "copies" (sp_Rn (cR K) fun _ _ k => k) := by
  obtain ⟨fd, F⟩ := x_Ring_copies Z
  exact ⟨He.cls_ok (Z.c.fact 83 (x := clsB "Ring") rfl), _, _, fd, propB_ok (Z.c.fact 121 (x := propB cR cR "copies") rfl), fun_bi F fun _ _ _ _ _ _ us hl => match us, hl with | [_], _ => rfl, (ok_Ring_copies F (hd_R Z))⟩
theorem z_p_cR_size : GP P w K mg base 1 (cR K) "size" (sp_Rn (cR K) fun rs _ _ => rs.length) := by
  obtain ⟨fd, F⟩ := x_Ring_size Z
  exact ⟨He.cls_ok (Z.c.fact 83 (x := clsB "Ring") rfl), _, _, fd, propB_ok (Z.c.fact 122 (x := propB cR cR "size") rfl), fun_bi F fun _ _ _ _ _ _ us hl => match us, hl with | [_], _ => rfl, (ok_Ring_size F (hd_T Z) (hd_R Z))⟩
theorem z_p_cR_rows : GP P w K mg base 1 (cR K) "rows" (sp_Ring_rows (cR K)) := by
  obtain ⟨fd, F⟩ := x_Ring_rows Z
  exact ⟨He.cls_ok (Z.c.fact 83 (x := clsB "Ring") rfl), _, _, fd, propB_ok (Z.c.fact 123 (x := propB cR cR "rows") rfl), fun_bi F fun _ _ _ _ _ _ us hl => match us, hl with | [_], _ => rfl, (ok_Ring_rows F (hd_R Z))⟩
theorem z_p_cR_words : GP P w K mg base 3 (cR K) "words" (sp_Rn (cR K) fun rs _ k => wordsN rs k) := by
  obtain ⟨fd, F⟩ := x_Ring_words Z
  exact ⟨He.cls_ok (Z.c.fact 83 (x := clsB "Ring") rfl), _, _, fd, propB_ok (Z.c.fact 124 (x := propB cR cR "words") rfl), fun_bi F fun _ _ _ _ _ _ us hl => match us, hl with | [_], _ => rfl, (ok_Ring_words F (hd_T Z) (hd_R Z) (z_p_cR_size Z))⟩
theorem z_m_cR___len__ : GM P w K mg base 1 (cR K) "__len__" ["self"] (sp_Ring_len (cR K)) := by
  obtain ⟨fd, F⟩ := x_Ring_len Z
  exact ⟨He.cls_ok (Z.c.fact 83 (x := clsB "Ring") rfl), _, fd, methB_ok (Z.c.fact 117 (x := methB cR cR "__len__") rfl), F.bi, (ok_Ring_len F.fn (hd_T Z) (hd_R Z))⟩
theorem z_m_cR_piece_at : GM P w K mg base 1 (cR K) "piece_at" ["self", "row"] (sp_Ring_piece_at (cR K)) := by
  obtain ⟨fd, F⟩ := x_Ring_piece_at Z
  exact ⟨He.cls_ok (Z.c.fact 83 (x := clsB "Ring") rfl), _, fd, methB_ok (Z.c.fact 118 (x := methB cR cR "piece_at") rfl), F.bi, (ok_Ring_piece_at F.fn (hd_R Z))⟩
theorem z_m_cR_first_memory : GM P w K mg base 1 (cR K) "first_memory" ["self", "state"] (sp_Ring_first_memory (cR K)) := by
  obtain ⟨fd, F⟩ := x_Ring_first_memory Z
  exact ⟨He.cls_ok (Z.c.fact 83 (x := clsB "Ring") rfl), _, fd, methB_ok (Z.c.fact 119 (x := methB cR cR "first_memory") rfl), F.bi, (ok_Ring_first_memory F.fn (hd_T Z) (hd_R Z))⟩
theorem z_k_RowReader : GMk P w K mg base 1 "RowReader" (cD K) ["self", "rows", "size"] (sp_RowReader_init (cD K)) := by
  obtain ⟨fd, F⟩ := x_RowReader_init Z
  exact ⟨(hd_T Z).g_RowReader, _, fd, He.mkr_ok (Z.c.fact 91 (x := mkrB "RowReader") rfl), F.bi, (ok_RowReader_init F (hd_D Z))⟩
theorem z_m_cD_peek : GM P w K mg base 1 (cD K) "peek" ["self"] (sp_peek (cD K)) := by
  obtain ⟨fd, F⟩ := x_RowReader_peek Z
  exact ⟨He.cls_ok (Z.c.fact 90 (x := clsB "RowReader") rfl), _, fd, methB_ok (Z.c.fact 125 (x := methB cD cD "peek") rfl), F.bi, (ok_peek F (hd_T Z) (hd_D Z))⟩
theorem z_m_cD_expect : GMG P w K mg base 2 (cD K) "expect" ["self", "row"] (sp_expect (cD K)) := by
  obtain ⟨fd, F⟩ := x_RowReader_expect Z
  exact ⟨He.cls_ok (Z.c.fact 90 (x := clsB "RowReader") rfl), _, fd, methB_ok (Z.c.fact 126 (x := methB cD cD "expect") rfl), F.bi, (ok_expect F (hd_T Z) (hd_D Z) (z_m_cD_peek Z))⟩
theorem z_m_cD_read_result : GMG P w K mg base 2 (cD K) "read_result" ["self", "known"] (sp_read_result (cD K)) := by
  obtain ⟨fd, F⟩ := x_RowReader_read_result Z
  exact ⟨He.cls_ok (Z.c.fact 90 (x := clsB "RowReader") rfl), _, fd, methB_ok (Z.c.fact 127 (x := methB cD cD "read_result") rfl), F.bi, (ok_read_result F (hd_T Z) (hd_D Z) (z_m_cD_peek Z) (z_g_is_number Z))⟩
theorem z_m_cD_read_step : GM P w K mg base 5 (cD K) "read_step" ["self", "known", "old"] (sp_read_step (cD K)) := by
  obtain ⟨fd, F⟩ := x_RowReader_read_step Z
  exact ⟨He.cls_ok (Z.c.fact 90 (x := clsB "RowReader") rfl), _, fd, methB_ok (Z.c.fact 128 (x := methB cD cD "read_step") rfl), F.bi, (ok_read_step F (hd_T Z) (hd_D Z) (z_m_cD_peek Z) (z_g_is_number Z) (z_g_is_recipe_row Z))⟩
theorem z_m_cD_read_recipe : GMG P w K mg base 6 (cD K) "read_recipe" ["self", "index", "old", "new"] (sp_read_recipe (cD K)) := by
  obtain ⟨fd, F⟩ := x_RowReader_read_recipe Z
  exact ⟨He.cls_ok (Z.c.fact 90 (x := clsB "RowReader") rfl), _, fd, methB_ok (Z.c.fact 129 (x := methB cD cD "read_recipe") rfl), F.bi, (ok_read_recipe F (hd_T Z) (hd_D Z) (z_m_cD_peek Z) (z_m_cD_expect Z) (z_m_cD_read_result Z) (z_m_cD_read_step Z) (z_g_choosing_rows Z))⟩
theorem z_m_cD_read_recipes : GMG P w K mg base 7 (cD K) "read_recipes" ["self"] (sp_read_recipes (cD K)) := by
  obtain ⟨fd, F⟩ := x_RowReader_read_recipes Z
  exact ⟨He.cls_ok (Z.c.fact 90 (x := clsB "RowReader") rfl), _, fd, methB_ok (Z.c.fact 130 (x := methB cD cD "read_recipes") rfl), F.bi, (ok_read_recipes F (hd_T Z) (hd_D Z) (z_m_cD_expect Z) (z_m_cD_read_recipe Z) (z_g_store_addresses Z) (z_g_counting_rows Z))⟩
theorem z_c_read : GCm P w K mg base 9 1 (cR K) "read" ["cls", "rows", "faults", "copies", "size"] ["faults", "copies", "size"] (sp_Ring_read (cR K)) := by
  obtain ⟨fd, F⟩ := x_Ring_read Z
  obtain ⟨h1, h2⟩ := cmB_ok (Z.c.fact 164 (x := cmB cR "read") rfl)
  exact ⟨_, _, _, fd, h1, h2, fun_kb F fun _ _ _ _ _ _ us ws hl hw => match us, hl, ws, hw with | [_, _], _, [_, _, _], _ => rfl, (ok_Ring_read F (hd_T Z) (hd_R Z) (hd_D Z) (z_m_cD_expect Z) (z_m_cD_read_recipes Z) (z_k_RowReader Z) (z_k_Ring Z) (z_p_cR_rows Z))⟩
theorem z_g_is_fault : GF P w K mg base 5 "is_fault" ["ring", "thing"] (sp_is_fault K) := by
  obtain ⟨fd, F⟩ := x_is_fault Z
  exact ⟨_, fd, hg_is_fault Z, F.fn.kp, F.bi, (ok_is_fault F (hd_T Z) (hd_R Z) (z_g_is_word Z) (z_g_is_index Z) (z_m_cR___len__ Z) (z_p_cR_words Z))⟩
theorem z_g_copy_of_address : GF P w K mg base 3 "copy_of_address" ["ring", "address"] (sp_copy_of_address K) := by
  obtain ⟨fd, F⟩ := x_copy_of_address Z
  exact ⟨_, fd, hg_copy_of_address Z, F.fn.kp, F.bi, (ok_copy_of_address F (hd_T Z) (z_p_cR_size Z))⟩
theorem z_g_affected_by : GF P w K mg base 4 "affected_by" ["ring", "row", "fault"] (sp_affected_by K) := by
  obtain ⟨fd, F⟩ := x_affected_by Z
  exact ⟨_, fd, hg_affected_by Z, F.fn.kp, F.bi, (ok_affected_by F (hd_T Z) (z_g_copy_of_address Z) (z_m_cR_piece_at Z))⟩
theorem z_g_store_at : GF P w K mg base 1 "store_at" ["memory", "address", "length"] sp_store_at := by
  obtain ⟨fd, F⟩ := x_store_at Z
  exact ⟨_, fd, hg_store_at Z, F.fn.kp, F.bi, (ok_store_at F (hd_T Z))⟩
theorem z_g_is_whole : GF P w K mg base 1 "is_whole" ["store"] sp_is_whole := by
  obtain ⟨fd, F⟩ := x_is_whole Z
  exact ⟨_, fd, hg_is_whole Z, F.fn.kp, F.bi, (ok_is_whole F (hd_T Z))⟩
theorem z_g_stores_of : GF P w K mg base 3 "stores_of" ["ring", "memory", "copy"] (sp_stores_of K) := by
  obtain ⟨fd, F⟩ := x_stores_of Z
  exact ⟨_, fd, hg_stores_of Z, F.fn.kp, F.bi, (ok_stores_of F (hd_T Z) (z_p_cR_size Z) (z_g_store_at Z))⟩
theorem z_g_held : GF P w K mg base 4 "held" ["ring", "memory", "copy"] (sp_held K) := by
  obtain ⟨fd, F⟩ := x_held Z
  exact ⟨_, fd, hg_held Z, F.fn.kp, F.bi, (ok_held F (hd_T Z) (z_g_stores_of Z) (z_g_is_whole Z))⟩
theorem z_g_reading : GF P w K mg base 5 "reading" ["ring", "memory"] (sp_reading K) := by
  obtain ⟨fd, F⟩ := x_reading Z
  exact ⟨_, fd, hg_reading Z, F.fn.kp, F.bi, (ok_reading F (hd_T Z) (z_p_cR_copies Z) (z_p_cR_faults Z) (z_g_held Z))⟩
theorem z_g_reading_reading : GF P w K mg base 5 "reading_reading" ["ring", "memory"] (sp_reading K) := by
  obtain ⟨fd, F⟩ := x_reading Z
  exact ⟨_, fd, hg_reading_reading Z, F.fn.kp, F.bi, (ok_reading F (hd_T Z) (z_p_cR_copies Z) (z_p_cR_faults Z) (z_g_held Z))⟩
theorem z_m_cM_execute : GM P w K mg base 2 (cM K) "execute" ["self", "row"] (sp_execute K (cM K)) := by
  obtain ⟨fd, F⟩ := x_Machine_execute Z
  exact ⟨He.cls_ok (Z.c.fact 95 (x := clsB "Machine") rfl), _, fd, methB_ok (Z.c.fact 131 (x := methB cM cM "execute") rfl), F.bi, (ok_execute F (hd_T Z) (hd_M Z) (z_g_operator_value Z))⟩
theorem z_m_cM_execute_next : GM P w K mg base 3 (cM K) "execute_next" ["self"] (sp_execute_next K (cM K)) := by
  obtain ⟨fd, F⟩ := x_Machine_execute_next Z
  exact ⟨He.cls_ok (Z.c.fact 95 (x := clsB "Machine") rfl), _, fd, methB_ok (Z.c.fact 132 (x := methB cM cM "execute_next") rfl), F.bi, (ok_execute_next F (hd_T Z) (hd_M Z) (z_m_cM_execute Z))⟩
theorem z_m_cM_run : GM P w K mg base 4 (cM K) "run" ["self", "many"] (sp_run K (cM K)) := by
  obtain ⟨fd, F⟩ := x_Machine_run Z
  exact ⟨He.cls_ok (Z.c.fact 95 (x := clsB "Machine") rfl), _, fd, methB_ok (Z.c.fact 133 (x := methB cM cM "run") rfl), F.bi, (ok_run F (hd_T Z) (z_m_cM_execute_next Z))⟩
theorem z_m_cM_changes_anything : GM P w K mg base 1 (cM K) "changes_anything" ["self", "fault"] (sp_changes K (cM K)) := by
  obtain ⟨fd, F⟩ := x_Machine_changes_anything Z
  exact ⟨He.cls_ok (Z.c.fact 95 (x := clsB "Machine") rfl), _, fd, methB_ok (Z.c.fact 135 (x := methB cM cM "changes_anything") rfl), F.bi, (ok_changes F (hd_T Z) (hd_M Z))⟩
theorem z_k_Machine : GMk P w K mg base 3 "Machine" (cM K) ["self", "ring", "first"] (sp_MI K (cM K) none) := by
  obtain ⟨fd, F⟩ := x_Machine_init Z
  exact ⟨(hd_T Z).g_Machine, _, fd, He.mkr_ok (Z.c.fact 96 (x := mkrB "Machine") rfl), F.bi, mi_plain (ok_Machine_init F (hd_T Z) (hd_M Z) (hd_R Z) (z_p_cR_rows Z) (z_m_cR_first_memory Z))⟩
theorem z_m_cM_note : GM P w K mg base 6 (cM K) "note" ["self", "fault"] (sp_note K (cM K) false) := by
  obtain ⟨fd, F⟩ := x_Machine_note Z
  exact ⟨He.cls_ok (Z.c.fact 95 (x := clsB "Machine") rfl), _, fd, methB_ok (Z.c.fact 136 (x := methB cM cM "note") rfl), F.bi, note_plain (ok_note0 F (hd_T Z) (hd_M Z) (z_g_affected_by Z))⟩
theorem z_m_cM_suffer : GM P w K mg base 7 (cM K) "suffer" ["self", "fault"] (sp_suffer K (cM K) false) := by
  obtain ⟨fd, F⟩ := x_Machine_suffer Z
  exact ⟨He.cls_ok (Z.c.fact 95 (x := clsB "Machine") rfl), _, fd, methB_ok (Z.c.fact 137 (x := methB cM cM "suffer") rfl), F.bi, (ok_suffer F (hd_T Z) (hd_M Z) (z_m_cM_changes_anything Z) (z_m_cM_note Z))⟩
theorem z_m_cM_strike : GMS P w K mg base 8 (cM K) "strike" (sp_strike K (cM K) false) := by
  obtain ⟨fd, F⟩ := x_Machine_strike Z
  have hb : ∀ us rest : List Value, us.length = ["self"].length → bindArgs fd ⟨us ++ rest, []⟩ = (newTuple rest >>= fun t => pure ((["self"] : List Str).zip us ++ [(("faults" : Str), t)])) := by
    obtain ⟨oc, od, kV, doc, pm, an, cdv, ct, osl, rfl, lk, hcd⟩ := F.ex
    exact StX.bind_star1 (B := fun l => bindArgs _ ⟨l, []⟩) (fun a => rfl) (fun a r rs => rfl)
  exact ⟨He.cls_ok (Z.c.fact 95 (x := clsB "Machine") rfl), _, methB_ok (Z.c.fact 138 (x := methB cM cM "strike") rfl), (ok_strike F hb (hd_T Z) (hd_M Z) (z_g_is_fault Z) (z_m_cM_suffer Z))⟩
theorem z_m_cM_play : GM P w K mg base 8 (cM K) "play" ["self", "story", "executed"] (sp_play K (cM K)) := by
  obtain ⟨fd, F⟩ := x_Machine_play Z
  exact ⟨He.cls_ok (Z.c.fact 95 (x := clsB "Machine") rfl), _, fd, methB_ok (Z.c.fact 139 (x := methB cM cM "play") rfl), F.bi, (ok_play F (hd_T Z) (hd_M Z) (z_m_cM_run Z) (z_m_cM_suffer Z))⟩
theorem z_p_cM_memory : GP P w K mg base 1 (cM K) "memory" (sp_MD K (cM K) fun _ _ _ ms => memD ms) := by
  obtain ⟨fd, F⟩ := x_Machine_memory Z
  exact ⟨He.cls_ok (Z.c.fact 95 (x := clsB "Machine") rfl), _, _, fd, propB_ok (Z.c.fact 140 (x := propB cM cM "memory") rfl), fun_bi F fun _ _ _ _ _ _ us hl => match us, hl with | [_], _ => rfl, (ok_memory F (hd_T Z) (hd_M Z))⟩
theorem z_p_cM_registers : GP P w K mg base 1 (cM K) "registers" (sp_MD K (cM K) fun _ _ _ ms => regD ms) := by
  obtain ⟨fd, F⟩ := x_Machine_registers Z
  exact ⟨He.cls_ok (Z.c.fact 95 (x := clsB "Machine") rfl), _, _, fd, propB_ok (Z.c.fact 141 (x := propB cM cM "registers") rfl), fun_bi F fun _ _ _ _ _ _ us hl => match us, hl with | [_], _ => rfl, (ok_registers F (hd_T Z) (hd_M Z))⟩
theorem z_p_cM_executed : GP P w K mg base 1 (cM K) "executed" (sp_MD K (cM K) fun _ _ _ ms => .int ms.done) := by
  obtain ⟨fd, F⟩ := x_Machine_executed Z
  exact ⟨He.cls_ok (Z.c.fact 95 (x := clsB "Machine") rfl), _, _, fd, propB_ok (Z.c.fact 142 (x := propB cM cM "executed") rfl), fun_bi F fun _ _ _ _ _ _ us hl => match us, hl with | [_], _ => rfl, (ok_executed F (hd_M Z))⟩
theorem z_p_cM_fault_count : GP P w K mg base 1 (cM K) "fault_count" (sp_MD K (cM K) fun _ _ _ ms => .int ms.cnt) := by
  obtain ⟨fd, F⟩ := x_Machine_fault_count Z
  exact ⟨He.cls_ok (Z.c.fact 95 (x := clsB "Machine") rfl), _, _, fd, propB_ok (Z.c.fact 143 (x := propB cM cM "fault_count") rfl), fun_bi F fun _ _ _ _ _ _ us hl => match us, hl with | [_], _ => rfl, (ok_fault_count F (hd_M Z))⟩
theorem z_p_cM_row : GP P w K mg base 1 (cM K) "row" (sp_MD K (cM K) fun _ _ _ ms => .int ms.row) := by
  obtain ⟨fd, F⟩ := x_Machine_row Z
  exact ⟨He.cls_ok (Z.c.fact 95 (x := clsB "Machine") rfl), _, _, fd, propB_ok (Z.c.fact 146 (x := propB cM cM "row") rfl), fun_bi F fun _ _ _ _ _ _ us hl => match us, hl with | [_], _ => rfl, (ok_row F (hd_M Z))⟩
theorem z_p_cM_affected : GP P w K mg base 1 (cM K) "affected" (sp_MD K (cM K) fun _ _ _ ms => affD ms) := by
  obtain ⟨fd, F⟩ := x_Machine_affected Z
  exact ⟨He.cls_ok (Z.c.fact 95 (x := clsB "Machine") rfl), _, _, fd, propB_ok (Z.c.fact 144 (x := propB cM cM "affected") rfl), fun_bi F fun _ _ _ _ _ _ us hl => match us, hl with | [_], _ => rfl, (ok_affected F (hd_T Z) (hd_M Z))⟩
theorem z_p_cM_reading : GP P w K mg base 8 (cM K) "reading" (sp_MD K (cM K) rdF) := by
  obtain ⟨fd, F⟩ := x_Machine_reading Z
  exact ⟨He.cls_ok (Z.c.fact 95 (x := clsB "Machine") rfl), _, _, fd, propB_ok (Z.c.fact 145 (x := propB cM cM "reading") rfl), fun_bi F fun _ _ _ _ _ _ us hl => match us, hl with | [_], _ => rfl, (ok_Machine_reading F (hd_T Z) (hd_M Z) (z_g_reading_reading Z))⟩
theorem z_m_cM_walk : GMZ P w K mg base 4 (cM K) "walk" ["self", "many"] (sp_walk K (cM K)) := by
  obtain ⟨fd, F⟩ := x_Machine_walk Z
  exact ⟨He.cls_ok (Z.c.fact 95 (x := clsB "Machine") rfl), _, fd, methB_ok (Z.c.fact 134 (x := methB cM cM "walk") rfl), F.bi, (ok_walk F (hd_T Z) (hd_M Z) (z_m_cM_execute_next Z))⟩
theorem z_m_cC_execute : GM P w K mg base 2 (cC K) "execute" ["self", "row"] (sp_execute K (cC K)) := by
  obtain ⟨fd, F⟩ := x_Machine_execute Z
  exact ⟨He.cls_ok (Z.c.fact 105 (x := clsB "Recorder") rfl), _, fd, methB_ok (Z.c.fact 149 (x := methB cC cM "execute") rfl), F.bi, (ok_execute F (hd_T Z) (hd_C Z) (z_g_operator_value Z))⟩
theorem z_m_cC_execute_next : GM P w K mg base 3 (cC K) "execute_next" ["self"] (sp_execute_next K (cC K)) := by
  obtain ⟨fd, F⟩ := x_Machine_execute_next Z
  exact ⟨He.cls_ok (Z.c.fact 105 (x := clsB "Recorder") rfl), _, fd, methB_ok (Z.c.fact 150 (x := methB cC cM "execute_next") rfl), F.bi, (ok_execute_next F (hd_T Z) (hd_C Z) (z_m_cC_execute Z))⟩
theorem z_m_cC_run : GM P w K mg base 4 (cC K) "run" ["self", "many"] (sp_run K (cC K)) := by
  obtain ⟨fd, F⟩ := x_Machine_run Z
  exact ⟨He.cls_ok (Z.c.fact 105 (x := clsB "Recorder") rfl), _, fd, methB_ok (Z.c.fact 151 (x := methB cC cM "run") rfl), F.bi, (ok_run F (hd_T Z) (z_m_cC_execute_next Z))⟩
theorem z_m_cC_changes_anything : GM P w K mg base 1 (cC K) "changes_anything" ["self", "fault"] (sp_changes K (cC K)) := by
  obtain ⟨fd, F⟩ := x_Machine_changes_anything Z
  exact ⟨He.cls_ok (Z.c.fact 105 (x := clsB "Recorder") rfl), _, fd, methB_ok (Z.c.fact 153 (x := methB cC cM "changes_anything") rfl), F.bi, (ok_changes F (hd_T Z) (hd_C Z))⟩
theorem z_k_Recorder : GMk P w K mg base 4 "Recorder" (cC K) ["self", "ring", "first"] (sp_MI K (cC K) (some [])) := by
  obtain ⟨fd2, F2⟩ := x_Machine_init Z
  obtain ⟨fd, F⟩ := Z.c.def_ 75 (d := d_Recorder_init) rfl
  obtain ⟨cc, cda, S⟩ := FunX.sup (P := P) (C := cC) (D := cM) F (Z.c.fact 165 (x := supB cC cM "__init__" "/claim/cut.py") rfl) Z.hf Z.ht
  have hb : Binds K fd ["self", "ring", "first"] [] := by
    obtain ⟨cl, oc, od, kV, doc, pm, an, cdv, ct, osl, _, rfl, _⟩ := F.ex
    exact .all fun us hl => match us, hl with | [_, _, _], _ => rfl
  exact ⟨(hd_T Z).g_Recorder, _, fd, He.mkr_ok (Z.c.fact 106 (x := mkrB "Recorder") rfl), hb, ok_Recorder_init S (hd_T Z) (hd_C Z) (hd_na Z) (ok_Machine_init F2 (hd_T Z) (hd_C Z) (hd_R Z) (z_p_cR_rows Z) (z_m_cR_first_memory Z)) F2.bi⟩
theorem z_m_cC_note : GM P w K mg base 6 (cC K) "note" ["self", "fault"] (sp_note K (cC K) true) := by
  obtain ⟨fd2, F2⟩ := x_Machine_note Z
  obtain ⟨fd, F⟩ := Z.c.def_ 76 (d := d_Recorder_note) rfl
  obtain ⟨cc, cda, S⟩ := FunX.sup (P := P) (C := cC) (D := cM) F (Z.c.fact 166 (x := supB cC cM "note" "/claim/cut.py") rfl) Z.hf Z.ht
  have hb : Binds K fd ["self", "fault"] [] := by
    obtain ⟨cl, oc, od, kV, doc, pm, an, cdv, ct, osl, _, rfl, _⟩ := F.ex
    exact .all fun us hl => match us, hl with | [_, _], _ => rfl
  exact ⟨He.cls_ok (Z.c.fact 105 (x := clsB "Recorder") rfl), _, fd, methB_ok (Z.c.fact 147 (x := methB cC cC "note") rfl), hb, ok_Recorder_note S (hd_T Z) (hd_C Z) (hd_na Z) (ok_note0 F2 (hd_T Z) (hd_C Z) (z_g_affected_by Z)) F2.bi⟩
theorem z_m_cC_suffer : GM P w K mg base 7 (cC K) "suffer" ["self", "fault"] (sp_suffer K (cC K) true) := by
  obtain ⟨fd, F⟩ := x_Machine_suffer Z
  exact ⟨He.cls_ok (Z.c.fact 105 (x := clsB "Recorder") rfl), _, fd, methB_ok (Z.c.fact 154 (x := methB cC cM "suffer") rfl), F.bi, (ok_suffer F (hd_T Z) (hd_C Z) (z_m_cC_changes_anything Z) (z_m_cC_note Z))⟩
theorem z_m_cC_strike : GMS P w K mg base 8 (cC K) "strike" (sp_strike K (cC K) true) := by
  obtain ⟨fd, F⟩ := x_Machine_strike Z
  have hb : ∀ us rest : List Value, us.length = ["self"].length → bindArgs fd ⟨us ++ rest, []⟩ = (newTuple rest >>= fun t => pure ((["self"] : List Str).zip us ++ [(("faults" : Str), t)])) := by
    obtain ⟨oc, od, kV, doc, pm, an, cdv, ct, osl, rfl, lk, hcd⟩ := F.ex
    exact StX.bind_star1 (B := fun l => bindArgs _ ⟨l, []⟩) (fun a => rfl) (fun a r rs => rfl)
  exact ⟨He.cls_ok (Z.c.fact 105 (x := clsB "Recorder") rfl), _, methB_ok (Z.c.fact 155 (x := methB cC cM "strike") rfl), (ok_strike F hb (hd_T Z) (hd_C Z) (z_g_is_fault Z) (z_m_cC_suffer Z))⟩
theorem z_p_cC_memory : GP P w K mg base 1 (cC K) "memory" (sp_MD K (cC K) fun _ _ _ ms => memD ms) := by
  obtain ⟨fd, F⟩ := x_Machine_memory Z
  exact ⟨He.cls_ok (Z.c.fact 105 (x := clsB "Recorder") rfl), _, _, fd, propB_ok (Z.c.fact 157 (x := propB cC cM "memory") rfl), fun_bi F fun _ _ _ _ _ _ us hl => match us, hl with | [_], _ => rfl, (ok_memory F (hd_T Z) (hd_C Z))⟩
theorem z_p_cC_registers : GP P w K mg base 1 (cC K) "registers" (sp_MD K (cC K) fun _ _ _ ms => regD ms) := by
  obtain ⟨fd, F⟩ := x_Machine_registers Z
  exact ⟨He.cls_ok (Z.c.fact 105 (x := clsB "Recorder") rfl), _, _, fd, propB_ok (Z.c.fact 158 (x := propB cC cM "registers") rfl), fun_bi F fun _ _ _ _ _ _ us hl => match us, hl with | [_], _ => rfl, (ok_registers F (hd_T Z) (hd_C Z))⟩
theorem z_p_cC_executed : GP P w K mg base 1 (cC K) "executed" (sp_MD K (cC K) fun _ _ _ ms => .int ms.done) := by
  obtain ⟨fd, F⟩ := x_Machine_executed Z
  exact ⟨He.cls_ok (Z.c.fact 105 (x := clsB "Recorder") rfl), _, _, fd, propB_ok (Z.c.fact 159 (x := propB cC cM "executed") rfl), fun_bi F fun _ _ _ _ _ _ us hl => match us, hl with | [_], _ => rfl, (ok_executed F (hd_C Z))⟩
theorem z_p_cC_fault_count : GP P w K mg base 1 (cC K) "fault_count" (sp_MD K (cC K) fun _ _ _ ms => .int ms.cnt) := by
  obtain ⟨fd, F⟩ := x_Machine_fault_count Z
  exact ⟨He.cls_ok (Z.c.fact 105 (x := clsB "Recorder") rfl), _, _, fd, propB_ok (Z.c.fact 160 (x := propB cC cM "fault_count") rfl), fun_bi F fun _ _ _ _ _ _ us hl => match us, hl with | [_], _ => rfl, (ok_fault_count F (hd_C Z))⟩
theorem z_p_cC_row : GP P w K mg base 1 (cC K) "row" (sp_MD K (cC K) fun _ _ _ ms => .int ms.row) := by
  obtain ⟨fd, F⟩ := x_Machine_row Z
  exact ⟨He.cls_ok (Z.c.fact 105 (x := clsB "Recorder") rfl), _, _, fd, propB_ok (Z.c.fact 163 (x := propB cC cM "row") rfl), fun_bi F fun _ _ _ _ _ _ us hl => match us, hl with | [_], _ => rfl, (ok_row F (hd_C Z))⟩
theorem z_p_cC_affected : GP P w K mg base 1 (cC K) "affected" (sp_MD K (cC K) fun _ _ _ ms => affD ms) := by
  obtain ⟨fd, F⟩ := x_Machine_affected Z
  exact ⟨He.cls_ok (Z.c.fact 105 (x := clsB "Recorder") rfl), _, _, fd, propB_ok (Z.c.fact 161 (x := propB cC cM "affected") rfl), fun_bi F fun _ _ _ _ _ _ us hl => match us, hl with | [_], _ => rfl, (ok_affected F (hd_T Z) (hd_C Z))⟩
theorem z_p_cC_reading : GP P w K mg base 8 (cC K) "reading" (sp_MD K (cC K) rdF) := by
  obtain ⟨fd, F⟩ := x_Machine_reading Z
  exact ⟨He.cls_ok (Z.c.fact 105 (x := clsB "Recorder") rfl), _, _, fd, propB_ok (Z.c.fact 162 (x := propB cC cM "reading") rfl), fun_bi F fun _ _ _ _ _ _ us hl => match us, hl with | [_], _ => rfl, (ok_Machine_reading F (hd_T Z) (hd_C Z) (z_g_reading_reading Z))⟩
theorem z_p_cC_story : GP P w K mg base 1 (cC K) "story" (sp_story K (cC K)) := by
  obtain ⟨fd, F⟩ := x_Recorder_story Z
  exact ⟨He.cls_ok (Z.c.fact 105 (x := clsB "Recorder") rfl), _, _, fd, propB_ok (Z.c.fact 148 (x := propB cC cC "story") rfl), fun_bi F fun _ _ _ _ _ _ us hl => match us, hl with | [_], _ => rfl, (ok_story F (hd_C Z) (hd_na Z))⟩
theorem z_m_cC_walk : GMZ P w K mg base 4 (cC K) "walk" ["self", "many"] (sp_walk K (cC K)) := by
  obtain ⟨fd, F⟩ := x_Machine_walk Z
  exact ⟨He.cls_ok (Z.c.fact 105 (x := clsB "Recorder") rfl), _, fd, methB_ok (Z.c.fact 152 (x := methB cC cM "walk") rfl), F.bi, (ok_walk F (hd_T Z) (hd_C Z) (z_m_cC_execute_next Z))⟩
theorem z_g__law_draw : GF P w K mg base 1 "_law_draw" ["_law_deck_here", "_law_many"] sp__law_draw := by
  obtain ⟨fd, F⟩ := x__law_draw Z
  exact ⟨_, fd, hg__law_draw Z, F.fn.kp, F.bi, (ok__law_draw F (hd_T Z))⟩
theorem z_g__law_deck : GF P w K mg base 1 "_law_deck" ["_law_script"] (sp__law_deck K) := by
  obtain ⟨fd, F⟩ := x__law_deck Z
  exact ⟨_, fd, hg__law_deck Z, F.fn.kp, F.bi, (ok__law_deck F (hd_T Z))⟩
theorem z_g__law_pick : GF P w K mg base 2 "_law_pick" ["_law_deck_here", "_law_items"] sp__law_pick := by
  obtain ⟨fd, F⟩ := x__law_pick Z
  exact ⟨_, fd, hg__law_pick Z, F.fn.kp, F.bi, (ok__law_pick F (hd_T Z) (z_g__law_draw Z))⟩
theorem z_g__law_word : GF P w K mg base 3 "_law_word" ["_law_deck_here"] sp__law_word := by
  obtain ⟨fd, F⟩ := x__law_word Z
  exact ⟨_, fd, hg__law_word Z, F.fn.kp, F.bi, (ok__law_word F (hd_T Z) (z_g__law_draw Z) (z_g__law_pick Z))⟩
theorem z_g__law_recipe : GF P w K mg base 4 "_law_recipe" ["_law_deck_here", "_law_many", "_law_most"] sp__law_recipe := by
  obtain ⟨fd, F⟩ := x__law_recipe Z
  exact ⟨_, fd, hg__law_recipe Z, F.fn.kp, F.bi, (ok__law_recipe F (hd_T Z) (z_g__law_draw Z) (z_g__law_pick Z) (z_g__law_word Z))⟩
theorem z_g__law_counter : GF P w K mg base 5 "_law_counter" ["_law_deck_here", "_law_most", "_law_more"] sp__law_counter := by
  obtain ⟨fd, F⟩ := x__law_counter Z
  exact ⟨_, fd, hg__law_counter Z, F.fn.kp, F.bi, (ok__law_counter F (hd_T Z) (z_g__law_draw Z) (z_g__law_word Z) (z_g__law_recipe Z))⟩
theorem z_g__law_fault : GF P w K mg base 4 "_law_fault" ["_law_deck_here", "_law_ring", "_law_count", "_law_many"] (sp__law_fault K) := by
  obtain ⟨fd, F⟩ := x__law_fault Z
  exact ⟨_, fd, hg__law_fault Z, F.fn.kp, F.bi, (ok__law_fault F (hd_T Z) (hd_R Z) (z_g__law_draw Z) (z_g__law_pick Z) (z_g__law_word Z) (z_m_cR___len__ Z) (z_m_cR_piece_at Z))⟩
theorem z_g__law_walked : GF P w K mg base 8 "_law_walked" ["_law_machine", "_law_number"] (sp__law_walked K) := by
  obtain ⟨fd, F⟩ := x__law_walked Z
  exact ⟨_, fd, hg__law_walked Z, F.fn.kp, F.bi, (ok__law_walked F (hd_T Z) (by intro C hC; rcases hC with rfl | rfl; exact z_m_cM_walk Z; exact z_m_cC_walk Z))⟩
theorem z_g__law_seen : GFG P w K mg base 10 "_law_seen" ["_law_machine"] (sp__law_seen K rdF) := by
  obtain ⟨fd, F⟩ := x__law_seen Z
  exact ⟨_, fd, hg__law_seen Z, F.fn.kp, F.bi, (ok__law_seen rdF_sho F (hd_T Z) (by intro C hC; rcases hC with rfl | rfl; exact z_p_cM_memory Z; exact z_p_cC_memory Z) (by intro C hC; rcases hC with rfl | rfl; exact z_p_cM_registers Z; exact z_p_cC_registers Z) (by intro C hC; rcases hC with rfl | rfl; exact z_p_cM_row Z; exact z_p_cC_row Z) (by intro C hC; rcases hC with rfl | rfl; exact z_p_cM_executed Z; exact z_p_cC_executed Z) (by intro C hC; rcases hC with rfl | rfl; exact z_p_cM_fault_count Z; exact z_p_cC_fault_count Z) (by intro C hC; rcases hC with rfl | rfl; exact z_p_cM_affected Z; exact z_p_cC_affected Z) (by intro C hC; rcases hC with rfl | rfl; exact z_p_cM_reading Z; exact z_p_cC_reading Z))⟩
theorem z_g__law_beside_right : GFG P w K mg base 11 "_law_beside_right" ["_law_deck_here", "_law_ring", "_law_read", "_law_first", "_law_count"] (sp__law_beside_right K) := by
  obtain ⟨fd, F⟩ := x__law_beside_right Z
  exact ⟨_, fd, hg__law_beside_right Z, F.fn.kp, F.bi, (ok__law_beside_right F (hd_T Z) (z_k_Recorder Z) (z_k_Machine Z) (z_m_cR___len__ Z) (z_g__law_draw Z) (z_p_cC_row Z) (z_p_cC_executed Z) (z_p_cC_story Z) (z_m_cC_run Z) (z_m_cM_run Z) (z_g__law_walked Z) (z_g__law_seen Z) (z_g__law_fault Z) (z_m_cC_strike Z) (z_m_cM_strike Z) (z_m_cM_play Z))⟩
theorem z_law : ∃ fd, (∀ (s : Shared) (v : Value), BindsTo s fd ⟨[v], []⟩ [("_law_script", v)]) ∧ ∀ base : Heap, FnG P w K mg base 12 (He.ga K "law") fd ["_law_script"] (sp_law K) := by
  obtain ⟨fd, F⟩ := x_law Z
  refine ⟨fd, ?_, fun base => (ok_law F (hd_T Z) (z_g__law_deck Z) (z_g__law_counter Z) (z_g__law_draw Z) (z_k_Ring Z) (z_c_read Z) (z_g__law_rows Z) (z_g__law_beside_right Z))⟩
  obtain ⟨oc, od, kV, doc, pm, an, cdv, ct, osl, rfl, lk, hcd⟩ := F.fn.ex
  exact fun s v => .of_eq rfl
end
end Sr
/-! The end: the law called behind the top. -/
namespace Sr
open PySem PySem.Spec PyProof.Rows L2
section
variable {P : Program} {w : World} {K : PySem.W.Frag} {mg mb : Str → Option Value} {fa a : Addr} {fd : FuncData} {s : Shared} {vs : List Value} {ns : List Int} {H : Hp}
/-- the view of the heap at the call: nothing is tracked but (perhaps) the script, which nobody may change -/
structure View0 (P : Program) (w : World) (K : PySem.W.Frag) (a : Addr) (ns : List Int) (H : Hp) (h : Heap) : Prop where
  ok : HOk P w H h
  one : ∀ b, b ≠ a → H b = none
  scr : H a = none ∨ (K.lookup a = none ∧ ∃ o xs, H a = some (.frz o (.lst xs)))
  sq : SqL K H a (ns.map V.int)
abbrev Told (s : Shared) (r : Result) (s' : Shared) : Prop := r = .ok (.ret (.bool true)) ∧ OldK s.heap s'.heap ∧ s'.os = s.os ∧ AllBare s'.gens
theorem call_view (V0 : View0 P w K a ns H s.heap) (KX : K.In s.heap) (hns : s.heap.Ns mainGlobals mg) (hb : s.heap.Ns builtinsNs mb) (hbb : ∀ x : Str, x ≠ "__name__" → mb x = bootBuiltins x) (hlim : s.heap.NoLimit) (hg : s.gens = #[])
    (ha : s.heap.get? a = some { cls := .type "list", data := .seq vs.toArray }) (hf : ∀ (s : Shared) (v : Value), BindsTo s fd ⟨[v], []⟩ [("_law_script", v)])
    (F : ∀ base : Heap, K.In base → base.Ns mainGlobals mg → FnG P w K mg base 12 fa fd ["_law_script"] (sp_law K)) : codeAny (model P w) callerA (.call (.ref fa) ⟨[.ref a], []⟩) (Told s) s := by
  have free : ∀ {b : Addr} {o : Obj}, s.heap.get? b = some o → (∀ its n, o.data ≠ .seq its n) → H b = none := fun {b o} e nd => by
    by_cases q : b = a
    · rw [q, ha] at e
      obtain rfl := Option.some.inj e
      exact absurd rfl (nd vs.toArray _)
    · exact V0.one b q
  have seen : ∀ {b : Addr} {m : Str → Option Value}, s.heap.Ns b m → (hidT s.heap H).Ns b m := fun {b m} z => by
    obtain ⟨o, es, ep, e, d, r⟩ := z
    exact ⟨o, es, ep, hidT_get e (free e fun its n q => by rw [d] at q; cases q), d, r⟩
  have KB : K.In (hidT s.heap H) := fun b o e => hidT_get (KX b o e) (by
    by_cases q : b = a
    · rcases V0.scr with z | ⟨z, _⟩
      · rw [q]; exact z
      · rw [q, z] at e; cases e
    · exact V0.one b q)
  have gl := seen hns
  have M : Mod K mg (hidT s.heap H) := ⟨KB, gl, ⟨mb, seen hb, hbb⟩, by
    obtain ⟨mc, h1, h2⟩ := hlim
    exact ⟨mc, seen h1, h2⟩⟩
  have E : Env0 P w K mg (hidT s.heap H) callerA [] s H := ⟨rfl, M, fun _ _ e => of_hidT e, Nat.le_of_eq (hidT_size _ _), trivial, fun b z => absurd (show b ∈ ([] : List Addr) from z) (by simp), V0.ok, .of_eq hg⟩
  have G := F _ KB gl
  have run := G.run callerA [] s H ⟨[.ref a], []⟩ [.ref a] [.ref a] (fun v _ => v = .bl true) (fun _ _ _ => False) rfl ⟨rfl, by decide, by decide⟩ E (hf s (.ref a)) (.cons rfl .nil) ⟨a, ns, rfl, V0.sq, fun _ => rfl⟩
  refine codeAny_mono run fun r s' z => ?_
  match r, z with
  | .error _, z => exact z.elim
  | .ok .next, z => exact z.elim
  | .ok .brk, z => exact z.elim
  | .ok .cont, z => exact z.elim
  | .ok (.ret u), ⟨v, H', eos, bare, un, ok', rl, ev⟩ =>
    have ev' : v = .bl true := ev
    subst ev'
    have eu : u = Value.bool true := rl
    subst eu
    refine ⟨rfl, OldK.of_keep fun b o e => ?_, eos, bare⟩
    by_cases q : H b = none
    · exact un.keep b o e q (by intro z; exact absurd (show b ∈ ([] : List Addr) from z) (by simp)) (by simp)
    · have eb : b = a := Classical.byContradiction fun n => q (V0.one b n)
      subst eb
      rcases V0.scr with z | ⟨_, ob, xs, z⟩
      · exact absurd z q
      · have e1 := (V0.ok b _ z).1
        have e2 := (ok' b _ (un.frzs b ob _ z)).1
        rw [e1] at e
        rw [e2]
        exact e
theorem law_end (KX : K.In s.heap) (hns : s.heap.Ns mainGlobals mg) (hb : s.heap.Ns builtinsNs mb) (hbb : ∀ x : Str, x ≠ "__name__" → mb x = bootBuiltins x) (hlim : s.heap.NoLimit) (hg : s.gens = #[])
    (ha : s.heap.get? a = some { cls := .type "list", data := .seq vs.toArray }) (hi : IntsAre vs ns) (hl : ns.length ≤ 63) (hf : ∀ (s : Shared) (v : Value), BindsTo s fd ⟨[v], []⟩ [("_law_script", v)])
    (F : ∀ base : Heap, K.In base → base.Ns mainGlobals mg → FnG P w K mg base 12 fa fd ["_law_script"] (sp_law K)) : codeAny (model P w) callerA (.call (.ref fa) ⟨[.ref a], []⟩) (Told s) s := by
  have rv := L2.vals_ints hi
  have hz : vs.length ≤ sizeLine := by
    rw [hi.length]
    exact le_line (by omega)
  have hz2 : (ns.map V.int).length ≤ sizeLine := by
    rw [List.length_map]
    exact le_line (by omega)
  by_cases q : K.lookup a = none
  · refine call_view (H := fun b => if b = a then some (.frz { cls := .type "list", data := .seq vs.toArray } (.lst (ns.map V.int))) else none) (ns := ns) ⟨fun b u z => ?_, fun b n => if_neg n, .inr ⟨q, _, _, if_pos rfl⟩, .inl (.inr ⟨_, if_pos rfl⟩)⟩ KX hns hb hbb hlim hg ha hf F
    by_cases e : b = a
    · subst e
      have z' := (if_pos rfl).symm.trans z
      cases z'
      exact ⟨ha, hz2, vs, _, rv, ha⟩
    · have z' := (if_neg e).symm.trans z
      cases z'
  · obtain ⟨o, e⟩ := Option.ne_none_iff_exists'.mp q
    have e1 := KX a o e
    rw [ha] at e1
    obtain rfl := Option.some.inj e1
    exact call_view (H := fun _ => none) (ns := ns) ⟨(fun b u z => by cases z), (fun _ _ => rfl), .inl rfl, .inr ⟨_, vs.toArray, _, e, rfl, rfl, rfl, by rw [List.size_toArray]; exact hz, by simpa using rv⟩⟩ KX hns hb hbb hlim hg ha hf F
end
end Sr
/-! The theorem. -/
namespace Sr
open PySem PySem.Spec PyProof.Rows L2
abbrev PR : Program := (PySem.Challenge.rw_struckring_k57_whole_rows_read_back_and).prog
theorem pr_file : (PR.main.file : Str) = "/claim/cut.py" := by kernel_rfl
theorem pr_sup : (PR.main.scope.names.lookup ("super" : Str)).isSome = false := by kernel_rfl
theorem law_fin {w : World} {mg mb : Str → Option Value} {fa a : Addr} {s : Shared} {vs : List Value} {ns : List Int} (Y : headHk.says w s.heap) (hns : s.heap.Ns mainGlobals mg) (hb : s.heap.Ns builtinsNs mb) (hbb : ∀ x : Str, x ≠ "__name__" → mb x = bootBuiltins x) (hlim : s.heap.NoLimit) (hg : s.gens = #[])
    (hmg : mg "law" = some (.ref fa)) (ha : s.heap.get? a = some { cls := .type "list", data := .seq vs.toArray }) (hi : IntsAre vs ns) (hl : ns.length ≤ 63) : codeAny (model PR w) callerA (.call (.ref fa) ⟨[.ref a], []⟩) (Told s) s := by
  obtain ⟨K, KX, c⟩ := (show ∃ K : PySem.W.Frag, K.In s.heap ∧ SaysS hxs hfn K from Y)
  have Z : Hd PR K mg := ⟨⟨_, KX, hns⟩, c, pr_file, pr_sup⟩
  have e := (hg_law Z).symm.trans hmg
  have e1 : He.ga K "law" = fa := by
    injection e with e
    injection e
  subst e1
  obtain ⟨fd, hf, F⟩ := z_law (P := PR) (w := w) Z
  exact law_end KX hns hb hbb hlim hg ha hi hl hf fun base _ _ => F base
end Sr
open PySem PySem.W PySem.Calls PyProof.Rows
theorem PySem.Challenge.cw_struckring_k57_whole_rows_read_back_and_holds : PySem.Challenge.rw_struckring_k57_whole_rows_read_back_and.Holds := by
  w_on; o_law
  refine HandSHeadRun.head_any (r := Sr.RR) (q := Sr.qv) (H := Sr.headHk) (ob := Sr.headOb) (M := 8000) (loose := Sr.looseN) (d := HandSHeadRun.topDef Sr.RR.prog 98) (kwd := []) Sr.headOb_eq (by kernel_rfl) (fun s => by kernel_rfl) Sr.headRun (by kernel_rfl) (by kernel_rfl)
    (by kernel_rfl) (by rfl) (by first | assumption | decide +kernel) (by decide +kernel) ⟨rfl, rfl, rfl, rfl, rfl, by decide +kernel⟩ ?hw ?hc
  case hw => w_witness2
  case hc =>
    refine Att.attach_call (l := PySem.Challenge.rw_struckring_k57_whole_rows_read_back_and) (n := 63) rfl (by kernel_rfl) fun w s₀ s₁ mg mb fa o pm cd doc a vs ns G Y _ _ _ hmg hobj hints hlen hg => ?_
    have en : (HandSHeadRun.topDef Sr.RR.prog 98).name = ("law" : PySem.Str) := by kernel_rfl
    rw [en] at hmg
    exact Sr.law_fin Y G.T.g G.T.b G.T.builtins G.T.nolimit hg hmg hobj hints hlen
