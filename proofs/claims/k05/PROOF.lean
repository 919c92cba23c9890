import PyProof.Rows.All
import Wide.All
import OpenK.AllK
import Wide.FinOn
import PySem.Challenge.RW_bitneed_k05_places_and_names
import HandS.ForExc
import HandS.ExcInit
import HandS.HeadHook2
import HandS.HeadHook3
import KE.KIsAll
import HandS.Head0
import HandS.Head1
import HandS.Head2
import HandS.HeadEnd
import HandS.HeadHook1
import HandS.ForMost
import HandS.IsInst
import HandS.Wide
import HandS.TupAny
import HandS.Style
import HandS.Defaults
import HandS.WordsExc
import HandS.CallSlots
import HandS.EndBits
import PyProof.ReprRoads
import KE.DataMinMax
import KE.KStateDown
import HandS.Text
import HandS.WideBits
import PyProof.StrLawsRepr
import PyProof.Rows.StrBin
import HandS.More
import HandS.DictComp
import KE.DataEq
import HandS.NoneIn
import HandS.Set
import HandS.SetFor
import HandS.Strs
import HandS.ExcOwn
import HandS.ExcValue
import PyProof.ZipIter
import PyProof.EnumMake
import PyProof.EnumFor
import KE.KDictZip
import HandS.Zip0
import HandS.Iter
import HandS.Zip
import KE.KBits
import HandS.TupMul
import HandS.CallLocal
import HandS.ListItems
import KE.GoesMore
import KE.KItemsList
import KE.KDictItemsList
import KE.SortData
import PyProof.Rows.StrMeet
import PyProof.NeKinds
import PyProof.FactsAll.subtypes_6
import KE.KEqDict
import HandS.List
import KE.GoesEnum
import KE.KDictPairs
import HandS.DictTup
import HandS.ExcField
import KE.KExcIs
import HandS.RaiseMore
set_option Elab.async false
set_option linter.all false
set_option maxRecDepth 100000
set_option maxHeartbeats 2000000
set_option autoImplicit false
namespace DL
open PySem PySem.Spec L2
open PyProof.Rows hiding St
abbrev AlM : Type := He.AlD × Bool
abbrev Tabs := List (Str × List He.Dv)
def tabsOk (ts : Tabs) (K : PySem.W.Frag) : Bool := ts.all fun p => He.tupB K p.1 p.2
def obsM (fa : List He.Fa) (fn : List He.DefD) (ts : Tabs) (K : PySem.W.Frag) : AlM := (He.obsD fa fn K, tabsOk ts K)
def SaysM (fa : List He.Fa) (fn : List He.DefD) (ts : Tabs) (K : PySem.W.Frag) : Prop := obsM fa fn ts K = (He.valD fn, true)
section
variable {fa : List He.Fa} {fn : List He.DefD} {ts : Tabs} {K : PySem.W.Frag}
theorem SaysM.d (c : SaysM fa fn ts K) : He.SaysD fa fn K := congrArg (fun z : AlM => z.1) c
theorem SaysM.tab (c : SaysM fa fn ts K) (i : Nat) {p : Str × List He.Dv} (h : ts[i]? = some p := by rfl) : He.tupB K p.1 p.2 = true := by
  have c1 : tabsOk ts K = true := congrArg (fun z : AlM => z.2) c
  exact List.all_eq_true.mp c1 p (List.mem_of_getElem? h)
end
/-- what the written part says of an own exception class -/
structure XcOk (K : PySem.W.Frag) (C : Addr) : Prop where
  hcl : (PySem.W.clsIn K C).isSome = true
  ga : PySem.W.findIn K (.ref C) "__getattribute__" = some (some (.builtin "BaseException.__getattribute__"))
  gg : PySem.W.findIn K (.ref C) "__getattr__" = some none
  sb : PySem.W.subIn K (.ref C) (.type "BaseException") = some true
  ac : PySem.W.findIn K (.ref C) "__class__" = some (some (.builtin "object.__class__"))
  sp : PySem.W.specialIn K (.builtin "object.__class__") "__get__" = some (some (.builtin "getset_descriptor.__get__"))
  tk : PySem.W.takesIn K (.builtin "object.__class__") = some true
  mo : PySem.W.mroIn K C (.type "object") = some true
  hd : PySem.W.hasDictIn K C = true
  ty : PySem.W.typeIn K (.ref C) = some (.type "type")
  kp : PySem.W.keepIn K (.ref C) = true
def xcB (K : PySem.W.Frag) (C : Addr) : Bool :=
  (PySem.W.clsIn K C).isSome && (decide (PySem.W.findIn K (.ref C) "__getattribute__" = some (some (.builtin "BaseException.__getattribute__"))) && (decide (PySem.W.findIn K (.ref C) "__getattr__" = some none) &&
    (decide (PySem.W.subIn K (.ref C) (.type "BaseException") = some true) && (decide (PySem.W.findIn K (.ref C) "__class__" = some (some (.builtin "object.__class__"))) &&
      (decide (PySem.W.specialIn K (.builtin "object.__class__") "__get__" = some (some (.builtin "getset_descriptor.__get__"))) && (decide (PySem.W.takesIn K (.builtin "object.__class__") = some true) &&
        (decide (PySem.W.mroIn K C (.type "object") = some true) && (PySem.W.hasDictIn K C && (decide (PySem.W.typeIn K (.ref C) = some (.type "type")) && PySem.W.keepIn K (.ref C))))))))))
theorem bAnd {a b : Bool} (h : (a && b) = true) : a = true ∧ b = true := Bool.and_eq_true_iff.mp h
theorem xcB_ok {K : PySem.W.Frag} {C : Addr} (h : xcB K C = true) : XcOk K C := by
  obtain ⟨h1, h⟩ := bAnd h
  obtain ⟨h2, h⟩ := bAnd h
  obtain ⟨h3, h⟩ := bAnd h
  obtain ⟨h4, h⟩ := bAnd h
  obtain ⟨h5, h⟩ := bAnd h
  obtain ⟨h6, h⟩ := bAnd h
  obtain ⟨h7, h⟩ := bAnd h
  obtain ⟨h8, h⟩ := bAnd h
  obtain ⟨h9, h⟩ := bAnd h
  obtain ⟨h10, h11⟩ := bAnd h
  exact ⟨h1, of_decide_eq_true h2, of_decide_eq_true h3, of_decide_eq_true h4, of_decide_eq_true h5, of_decide_eq_true h6, of_decide_eq_true h7, of_decide_eq_true h8, h9, of_decide_eq_true h10, h11⟩
/-- the same of a class with an __init__ of its own: f1, f2 its fields -/
structure XiOk (K : PySem.W.Frag) (C : Addr) (f1 f2 : Str) : Prop where
  ox : OexC K C
  n1 : PySem.W.findIn K (.ref C) f1 = some none
  n2 : PySem.W.findIn K (.ref C) f2 = some none
  iC : PySem.W.findIn K (.ref C) "__init__" = some (some (.ref (He.ma K C "__init__")))
  tI : PySem.W.typeIn K (.ref (He.ma K C "__init__")) = some (.type "function")
def oexB (K : PySem.W.Frag) (C : Addr) : Bool := match K.lookup C with
  | some ⟨c0, _, .cls cd, sl⟩ => decide (c0 = .type "type") && (match cd.mro, sl.toList with
    | .ref C2 :: bm, [_, _, _, _, some v4, _] => decide (C2 = C) && (decide (v4 = .builtin "ValueError.__new__") && (HandSPX.refsVE bm && (cd.hasDict && !cd.hasDel)))
    | _, _ => false)
  | _ => false
def xiB (K : PySem.W.Frag) (C : Addr) (f1 f2 : Str) : Bool :=
  oexB K C && (decide (PySem.W.findIn K (.ref C) "__setattr__" = some (some (.builtin "object.__setattr__"))) && (decide (PySem.W.findIn K (.ref C) f1 = some none) && (decide (PySem.W.findIn K (.ref C) f2 = some none) &&
    (decide (PySem.W.findIn K (.ref C) "__init__" = some (some (.ref (He.ma K C "__init__")))) && decide (PySem.W.typeIn K (.ref (He.ma K C "__init__")) = some (.type "function"))))))
theorem oexB_ok {K : PySem.W.Frag} {C : Addr} (h : oexB K C = true) : ∃ nm q N bs bm sn sub ab col dd k0 k1 k2 k3 k5, K.lookup C = some (excClassObj nm q C N bs bm true sn sub ab col dd k0 k1 k2 k3 k5 "ValueError.__new__") ∧ HandSPX.refsVE bm = true := by
  unfold oexB at h
  split at h
  · rename_i c0 dd cd sl e
    obtain ⟨h0, h⟩ := bAnd h
    split at h
    · rename_i C2 bm k0 k1 k2 k3 v4 k5 e1 e2
      obtain ⟨h1, h⟩ := bAnd h
      obtain ⟨h2, h⟩ := bAnd h
      obtain ⟨h3, h⟩ := bAnd h
      obtain ⟨h4, h5⟩ := bAnd h
      have g0 := of_decide_eq_true h0
      have g1 := of_decide_eq_true h1
      have g2 := of_decide_eq_true h2
      obtain ⟨nm, bs, mro, ns, qn, hd, sn, sub, ab, col, del⟩ := cd
      dsimp only at e1 h4 h5
      have h6 : del = false := by simpa using h5
      obtain ⟨l⟩ := sl
      dsimp only at e2
      subst g0 g1 g2 e1 e2 h4 h6
      exact ⟨nm, qn, ns, bs, bm, sn, sub, ab, col, dd, k0, k1, k2, k3, k5, e, h3⟩
    · cases h
  · cases h
theorem xiB_ok {K : PySem.W.Frag} {C : Addr} {f1 f2 : Str} (T : XcOk K C) (h : xiB K C f1 f2 = true) : XiOk K C f1 f2 := by
  obtain ⟨h1, h⟩ := bAnd h
  obtain ⟨h2, h⟩ := bAnd h
  obtain ⟨h3, h⟩ := bAnd h
  obtain ⟨h4, h⟩ := bAnd h
  obtain ⟨h5, h6⟩ := bAnd h
  exact ⟨⟨oexB_ok h1, of_decide_eq_true h2, T.sb, T.ty, T.kp⟩, of_decide_eq_true h3, of_decide_eq_true h4, of_decide_eq_true h5, of_decide_eq_true h6⟩
/-- all own exception classes, by their names, under base; those with fields -/
structure XTab where
  base : Str
  ns : List Str
  fs : List (Str × Str × Str)
def XTab.ok (t : XTab) (K : PySem.W.Frag) : Bool :=
  (t.ns.all fun p => xcB K (He.ga K p) && ((t.ns.all fun q => decide (PySem.W.exmOne K (.ref (He.ga K p)) (.ref (He.ga K q)) = some (decide (q = p) || decide (q = t.base)))) && (decide (PySem.W.kitOne K (.ref (He.ga K p)) (.type "ValueError") = some true) &&
    (decide (PySem.W.kitOne K (.type "NoneType") (.ref (He.ga K p)) = some false) && (t.ns.all fun q => decide (PySem.W.kitOne K (.ref (He.ga K p)) (.ref (He.ga K q)) = some (decide (q = p) || decide (q = t.base)))) &&
      ((t.fs.map (·.1)).contains p || PySem.W.excIn K (He.ga K p) He.veBase "ValueError.__new__"))))) && ((t.fs.all fun f => xiB K (He.ga K f.1) f.2.1 f.2.2 && t.ns.contains f.1) &&
    (decide (PySem.W.specialIn K (.ref (He.ga K t.base)) "__getattribute__" = some (some (.builtin "type.__getattribute__"))) && (PySem.W.readsIn K (He.ga K t.base) (.type "type") &&
      (match PySem.W.findCls K (.ref (He.ga K t.base)) (.type "type") "__init__" with | some (.val v) => decide (v = .builtin "ValueError.__init__") | _ => false))))
structure XTabOk (t : XTab) (K : PySem.W.Frag) : Prop where
  c : ∀ p ∈ t.ns, XcOk K (He.ga K p)
  m : ∀ p ∈ t.ns, ∀ q ∈ t.ns, PySem.W.exmOne K (.ref (He.ga K p)) (.ref (He.ga K q)) = some (decide (q = p) || decide (q = t.base))
  v : ∀ p ∈ t.ns, PySem.W.kitOne K (.ref (He.ga K p)) (.type "ValueError") = some true
  n : ∀ p ∈ t.ns, PySem.W.kitOne K (.type "NoneType") (.ref (He.ga K p)) = some false
  k : ∀ p ∈ t.ns, ∀ q ∈ t.ns, PySem.W.kitOne K (.ref (He.ga K p)) (.ref (He.ga K q)) = some (decide (q = p) || decide (q = t.base))
  s : ∀ p ∈ t.ns, (t.fs.map (·.1)).contains p = false → PySem.W.excIn K (He.ga K p) He.veBase "ValueError.__new__" = true
  f : ∀ f ∈ t.fs, XiOk K (He.ga K f.1) f.2.1 f.2.2
  b1 : PySem.W.specialIn K (.ref (He.ga K t.base)) "__getattribute__" = some (some (.builtin "type.__getattribute__"))
  b2 : PySem.W.readsIn K (He.ga K t.base) (.type "type") = true
  b3 : PySem.W.findCls K (.ref (He.ga K t.base)) (.type "type") "__init__" = some (.val (.builtin "ValueError.__init__"))
theorem XTab.get {t : XTab} {K : PySem.W.Frag} (h : t.ok K = true) : XTabOk t K := by
  obtain ⟨h1, h⟩ := bAnd h
  obtain ⟨h2, h⟩ := bAnd h
  obtain ⟨h3, h⟩ := bAnd h
  obtain ⟨h4, h5⟩ := bAnd h
  have a1 := List.all_eq_true.mp h1
  have a2 := List.all_eq_true.mp h2
  have c : ∀ p ∈ t.ns, XcOk K (He.ga K p) := fun p hp => xcB_ok (bAnd (a1 p hp)).1
  refine ⟨c, fun p hp q hq => ?_, fun p hp => ?_, fun p hp => ?_, fun p hp q hq => ?_, fun p hp ne => ?_, fun f hf => ?_, of_decide_eq_true h3, h4, ?_⟩
  · exact of_decide_eq_true (List.all_eq_true.mp (bAnd (bAnd (a1 p hp)).2).1 q hq)
  · exact of_decide_eq_true (bAnd (bAnd (bAnd (a1 p hp)).2).2).1
  · exact of_decide_eq_true (bAnd (bAnd (bAnd (bAnd (bAnd (a1 p hp)).2).2).2).1).1
  · exact of_decide_eq_true (List.all_eq_true.mp (bAnd (bAnd (bAnd (bAnd (bAnd (a1 p hp)).2).2).2).1).2 q hq)
  · have z := (bAnd (bAnd (bAnd (bAnd (a1 p hp)).2).2).2).2
    rw [ne, Bool.false_or] at z
    exact z
  · obtain ⟨z1, z2⟩ := bAnd (a2 f hf)
    exact xiB_ok (c _ (by simpa using z2)) z1
  · split at h5
    · rename_i v e
      rw [e, of_decide_eq_true h5]
    · cases h5
/-- a dict of the module: its keys in order; what it has under some keys -/
structure DTab where
  nm : Str
  keys : List Str
  at' : List (Str × Option Int)
def relI (v : Int) : Option (Option Value) → Bool
  | some (some (.int j _)) => decide (j = v)
  | _ => false
def isNo : Option (Option Value) → Bool
  | some none => true
  | _ => false
def atB (K : PySem.W.Frag) (a : Addr) (q : Str × Option Int) : Bool := match q.2 with
  | some v => relI v (PySem.W.nsIn K a q.1)
  | none => isNo (PySem.W.nsIn K a q.1)
abbrev AlN : Type := AlM × Bool × List (Option (List (Option (Str × Int))))
def atsB (ds : List DTab) (K : PySem.W.Frag) : Bool := ds.all fun d => d.at'.all fun q => atB K (He.ga K d.nm) q
def obsN (fa : List He.Fa) (fn : List He.DefD) (ts : Tabs) (ds : List DTab) (xs : List XTab) (K : PySem.W.Frag) : AlN := (obsM fa fn ts K, (atsB ds K && xs.all fun t => t.ok K), ds.map fun d => He.dicW K (He.ga K d.nm))
def valN (fn : List He.DefD) (ds : List DTab) (w : World) : AlN := ((He.valD fn, true), true, ds.map fun d => some (He.keysIn w.params d.keys))
def SaysN (fa : List He.Fa) (fn : List He.DefD) (ts : Tabs) (ds : List DTab) (xs : List XTab) (w : World) (K : PySem.W.Frag) : Prop := obsN fa fn ts ds xs K = valN fn ds w
/-- what these name -/
def nextD (g : Addr → Option Obj) (as : List Addr) : List Addr := as.flatMap fun a => match g a with
  | some o => He.refsD o
  | none => []
/-- what is reached in n steps, the nearest first; some of it more than once (the kit's own list costs the kernel far more: it strikes what stands twice) -/
def reachD (g : Addr → Option Obj) : Nat → List Addr → List Addr
  | 0, as => as
  | n + 1, as => as ++ reachD g n (nextD g as)
def obsNG (n : Nat) (fa : List He.Fa) (fn : List He.DefD) (ts : Tabs) (ds : List DTab) (xs : List XTab) (g : Addr → Option Obj) : AlN := obsN fa fn ts ds xs (He.frG g (cStatics :: reachD g n [mainGlobals]))
def hookN (n : Nat) (fa : List He.Fa) (fn : List He.DefD) (ts : Tabs) (ds : List DTab) (xs : List XTab) : PySem.W.Hook where
  α := AlN
  obs := fun s => obsNG n fa fn ts ds xs s.heap.get?
  val := fun w => valN fn ds w
  says := fun w h => ∃ K : PySem.W.Frag, K.In h ∧ SaysN fa fn ts ds xs w K
  of := fun _ _ e => ⟨_, He.frG_in, e⟩
  keeps := fun _ _ _ ⟨K, hK, c⟩ k => ⟨K, PySem.W.Frag.In.keeps hK k, c⟩
theorem obsNG_eq {n : Nat} {fa : List He.Fa} {fn : List He.DefD} {ts : Tabs} {ds : List DTab} {xs : List XTab} {g : Addr → Option Obj} {s : Shared} (h : ∀ a, g a = s.heap.get? a) : obsNG n fa fn ts ds xs g = (hookN n fa fn ts ds xs).obs s := by
  have e : g = s.heap.get? := funext h
  rw [e] <;> rfl
section
variable {fa : List He.Fa} {fn : List He.DefD} {ts : Tabs} {ds : List DTab} {xs : List XTab} {w : World} {K : PySem.W.Frag}
theorem SaysN.xt (c : SaysN fa fn ts ds xs w K) (i : Nat) {t : XTab} (h : xs[i]? = some t := by rfl) : XTabOk t K := by
  have c1 : (atsB ds K && xs.all fun t => t.ok K) = true := congrArg (fun z : AlN => z.2.1) c
  exact XTab.get (List.all_eq_true.mp (bAnd c1).2 t (List.mem_of_getElem? h))
theorem SaysN.m (c : SaysN fa fn ts ds xs w K) : SaysM fa fn ts K := congrArg (fun z : AlN => z.1) c
end
end DL
set_option Elab.async false
set_option linter.all false
set_option maxRecDepth 100000
set_option maxHeartbeats 2000000
set_option autoImplicit true
namespace DL
open PySem PySem.Spec L2
open PyProof.Rows hiding St
def top (i : Nat) : Stmt := PySem.Challenge.pw_bitneed_k05_places_and_names.main.body.getD i (.Pass ⟨0, 0, 0, 0⟩)
abbrev xt : XTab := ⟨"BitError", ["BitError", "Unsound", "BadProgram", "BadPlace"], [("Unsound", "place", "what")]⟩
def xts : List XTab := [xt]
abbrev s_Unsound_init : Stmt := inClass (top 2) 0
abbrev s_is_whole : Stmt := top 8
abbrev s_is_name : Stmt := top 9
abbrev s_full : Stmt := top 21
abbrev s_is_expr : Stmt := top 22
abbrev s_has_form : Stmt := top 23
abbrev s_inner_rows : Stmt := top 24
abbrev s_are_rows : Stmt := top 25
abbrev s_is_program : Stmt := top 26
abbrev s_rows_within : Stmt := top 27
abbrev s_uses : Stmt := top 28
abbrev s_names_behind : Stmt := top 29
abbrev s_names_at_end : Stmt := top 30
abbrev s_first_lacking : Stmt := top 31
abbrev s_steps_of : Stmt := top 32
abbrev s_first_wrong : Stmt := top 33
abbrev s_need_program : Stmt := top 34
abbrev s_places_of : Stmt := top 35
abbrev s_set_places : Stmt := top 36
abbrev s_need_place : Stmt := top 37
abbrev s_names_ahead : Stmt := top 38
abbrev s_names_at : Stmt := top 39
abbrev s__law_begin : Stmt := top 41
abbrev s__law_mixed : Stmt := top 42
abbrev s__law_next : Stmt := top 43
abbrev s__law_words : Stmt := top 44
abbrev s__law_number : Stmt := top 45
abbrev s__law_expr : Stmt := top 46
abbrev s__law_rows : Stmt := top 47
abbrev s__law_steps : Stmt := top 48
abbrev s__law_fewer : Stmt := top 49
abbrev s__law_program : Stmt := top 50
abbrev s__law_small : Stmt := top 51
abbrev s__law_put_in : Stmt := top 52
abbrev s__law_all_put_in : Stmt := top 53
abbrev s__law_ways : Stmt := top 54
abbrev s__law_flat : Stmt := top 55
abbrev s__law_behind : Stmt := top 56
abbrev s__law_end : Stmt := top 57
abbrev s__law_used : Stmt := top 58
abbrev s__law_ahead : Stmt := top 59
abbrev s__law_twin : Stmt := top 60
abbrev s__law_nobody : Stmt := top 61
abbrev s__law_said : Stmt := top 62
abbrev s__law_right : Stmt := top 63
abbrev s__law_great : Stmt := top 64
abbrev s_law : Stmt := top 65
def ts : Tabs := [("PAIRS", [.str "add", .str "less", .str "and", .str "or", .str "unlike", .str "same", .str "below"]), ("MOVES", [.str "up", .str "down"])]
def fn : List He.DefD := [⟨("is_whole", none), "is_whole", "is_whole", defArgs s_is_whole, defBody s_is_whole, defScope s_is_whole, [], []⟩,
  ⟨("is_name", none), "is_name", "is_name", defArgs s_is_name, defBody s_is_name, defScope s_is_name, [], []⟩,
  ⟨("full", none), "full", "full", defArgs s_full, defBody s_full, defScope s_full, [], []⟩,
  ⟨("is_expr", none), "is_expr", "is_expr", defArgs s_is_expr, defBody s_is_expr, defScope s_is_expr, [], []⟩,
  ⟨("has_form", none), "has_form", "has_form", defArgs s_has_form, defBody s_has_form, defScope s_has_form, [], []⟩,
  ⟨("inner_rows", none), "inner_rows", "inner_rows", defArgs s_inner_rows, defBody s_inner_rows, defScope s_inner_rows, [], []⟩,
  ⟨("are_rows", none), "are_rows", "are_rows", defArgs s_are_rows, defBody s_are_rows, defScope s_are_rows, [], []⟩,
  ⟨("is_program", none), "is_program", "is_program", defArgs s_is_program, defBody s_is_program, defScope s_is_program, [], []⟩,
  ⟨("rows_within", none), "rows_within", "rows_within", defArgs s_rows_within, defBody s_rows_within, defScope s_rows_within, [], []⟩,
  ⟨("uses", none), "uses", "uses", defArgs s_uses, defBody s_uses, defScope s_uses, [], []⟩,
  ⟨("names_behind", none), "names_behind", "names_behind", defArgs s_names_behind, defBody s_names_behind, defScope s_names_behind, [], []⟩,
  ⟨("names_at_end", none), "names_at_end", "names_at_end", defArgs s_names_at_end, defBody s_names_at_end, defScope s_names_at_end, [], []⟩,
  ⟨("first_lacking", none), "first_lacking", "first_lacking", defArgs s_first_lacking, defBody s_first_lacking, defScope s_first_lacking, [], []⟩,
  ⟨("steps_of", none), "steps_of", "steps_of", defArgs s_steps_of, defBody s_steps_of, defScope s_steps_of, [], []⟩,
  ⟨("first_wrong", none), "first_wrong", "first_wrong", defArgs s_first_wrong, defBody s_first_wrong, defScope s_first_wrong, [], []⟩,
  ⟨("need_program", none), "need_program", "need_program", defArgs s_need_program, defBody s_need_program, defScope s_need_program, [], []⟩,
  ⟨("places_of", none), "places_of", "places_of", defArgs s_places_of, defBody s_places_of, defScope s_places_of, [], []⟩,
  ⟨("set_places", none), "set_places", "set_places", defArgs s_set_places, defBody s_set_places, defScope s_set_places, [], []⟩,
  ⟨("need_place", none), "need_place", "need_place", defArgs s_need_place, defBody s_need_place, defScope s_need_place, [], []⟩,
  ⟨("names_ahead", none), "names_ahead", "names_ahead", defArgs s_names_ahead, defBody s_names_ahead, defScope s_names_ahead, [], []⟩,
  ⟨("names_at", none), "names_at", "names_at", defArgs s_names_at, defBody s_names_at, defScope s_names_at, [], []⟩,
  ⟨("_law_begin", none), "_law_begin", "_law_begin", defArgs s__law_begin, defBody s__law_begin, defScope s__law_begin, [], []⟩,
  ⟨("_law_mixed", none), "_law_mixed", "_law_mixed", defArgs s__law_mixed, defBody s__law_mixed, defScope s__law_mixed, [], []⟩,
  ⟨("_law_next", none), "_law_next", "_law_next", defArgs s__law_next, defBody s__law_next, defScope s__law_next, [], []⟩,
  ⟨("_law_words", none), "_law_words", "_law_words", defArgs s__law_words, defBody s__law_words, defScope s__law_words, [], []⟩,
  ⟨("_law_number", none), "_law_number", "_law_number", defArgs s__law_number, defBody s__law_number, defScope s__law_number, [], []⟩,
  ⟨("_law_expr", none), "_law_expr", "_law_expr", defArgs s__law_expr, defBody s__law_expr, defScope s__law_expr, [], []⟩,
  ⟨("_law_rows", none), "_law_rows", "_law_rows", defArgs s__law_rows, defBody s__law_rows, defScope s__law_rows, [], []⟩,
  ⟨("_law_steps", none), "_law_steps", "_law_steps", defArgs s__law_steps, defBody s__law_steps, defScope s__law_steps, [], []⟩,
  ⟨("_law_fewer", none), "_law_fewer", "_law_fewer", defArgs s__law_fewer, defBody s__law_fewer, defScope s__law_fewer, [], []⟩,
  ⟨("_law_program", none), "_law_program", "_law_program", defArgs s__law_program, defBody s__law_program, defScope s__law_program, [], []⟩,
  ⟨("_law_small", none), "_law_small", "_law_small", defArgs s__law_small, defBody s__law_small, defScope s__law_small, [], []⟩,
  ⟨("_law_put_in", none), "_law_put_in", "_law_put_in", defArgs s__law_put_in, defBody s__law_put_in, defScope s__law_put_in, [], []⟩,
  ⟨("_law_all_put_in", none), "_law_all_put_in", "_law_all_put_in", defArgs s__law_all_put_in, defBody s__law_all_put_in, defScope s__law_all_put_in, [], []⟩,
  ⟨("_law_ways", none), "_law_ways", "_law_ways", defArgs s__law_ways, defBody s__law_ways, defScope s__law_ways, [], []⟩,
  ⟨("_law_flat", none), "_law_flat", "_law_flat", defArgs s__law_flat, defBody s__law_flat, defScope s__law_flat, [], []⟩,
  ⟨("_law_behind", none), "_law_behind", "_law_behind", defArgs s__law_behind, defBody s__law_behind, defScope s__law_behind, [], []⟩,
  ⟨("_law_end", none), "_law_end", "_law_end", defArgs s__law_end, defBody s__law_end, defScope s__law_end, [], []⟩,
  ⟨("_law_used", none), "_law_used", "_law_used", defArgs s__law_used, defBody s__law_used, defScope s__law_used, [], []⟩,
  ⟨("_law_ahead", none), "_law_ahead", "_law_ahead", defArgs s__law_ahead, defBody s__law_ahead, defScope s__law_ahead, [], []⟩,
  ⟨("_law_twin", none), "_law_twin", "_law_twin", defArgs s__law_twin, defBody s__law_twin, defScope s__law_twin, [], []⟩,
  ⟨("_law_nobody", none), "_law_nobody", "_law_nobody", defArgs s__law_nobody, defBody s__law_nobody, defScope s__law_nobody, [], []⟩,
  ⟨("_law_said", none), "_law_said", "_law_said", defArgs s__law_said, defBody s__law_said, defScope s__law_said, [], []⟩,
  ⟨("_law_right", none), "_law_right", "_law_right", defArgs s__law_right, defBody s__law_right, defScope s__law_right, [], []⟩,
  ⟨("_law_great", none), "_law_great", "_law_great", defArgs s__law_great, defBody s__law_great, defScope s__law_great, [], []⟩,
  ⟨("law", none), "law", "law", defArgs s_law, defBody s_law, defScope s_law, [], []⟩,
  ⟨("Unsound", some "__init__"), "__init__", "Unsound.__init__", defArgs s_Unsound_init, defBody s_Unsound_init, defScope s_Unsound_init, [], []⟩]
def dtab : List DTab := []
def fa : List He.Fa := [.glo "is_whole", .glo "is_name", .glo "full", .glo "is_expr", .glo "has_form", .glo "inner_rows", .glo "are_rows", .glo "is_program", .glo "rows_within", .glo "uses", .glo "names_behind", .glo "names_at_end", .glo "first_lacking", .glo "steps_of", .glo "first_wrong", .glo "need_program", .glo "places_of", .glo "set_places", .glo "need_place", .glo "names_ahead", .glo "names_at", .glo "_law_begin", .glo "_law_mixed", .glo "_law_next", .glo "_law_words", .glo "_law_number", .glo "_law_expr", .glo "_law_rows", .glo "_law_steps", .glo "_law_fewer", .glo "_law_program", .glo "_law_small", .glo "_law_put_in", .glo "_law_all_put_in", .glo "_law_ways", .glo "_law_flat", .glo "_law_behind", .glo "_law_end", .glo "_law_used", .glo "_law_ahead", .glo "_law_twin", .glo "_law_nobody", .glo "_law_said", .glo "_law_right", .glo "_law_great", .glo "law", .free "all", .free "bool", .free "enumerate", .free "int", .free "isinstance", .free "len", .free "list", .free "max", .free "min", .free "range", .free "repr", .free "set", .free "sorted", .free "str", .free "tuple", .str "SMALL" "abcdefghijklmnopqrstuvwxyz", .int "MOST_LETTERS" (8), .int "MOST_WIDE" (12), .int "MOST_INPUTS" (4), .int "MOST_ROWS" (60), .int "MOST_DEEP" (6), .int "MOST_ROUNDS" (12), .int "MOST_TURNED" (3), .int "MOST_MOVED" (11), .int "MOST_STEPS" (2000), .glo "PAIRS", .glo "MOVES", .glo "BitError", .glo "Unsound", .glo "BadProgram", .glo "BadPlace"]
abbrev R0 : PySem.W.OpenRow := PySem.W.OpenLaw.row PySem.Challenge.rw_bitneed_k05_places_and_names
abbrev hk : PySem.W.Hook := hookN 4 fa fn ts dtab xts
def ob (s : PySem.W.SharedT) : AlN := obsNG 4 fa fn ts dtab xts (HandSHeadRun.getT s)
theorem ob_eq (s : PySem.W.SharedT) : ob s = hk.obs s.abs := obsNG_eq (HandSHeadRun.getT_eq s)
def looseN : List Str := [("is_whole" : Str), ("is_name" : Str), ("full" : Str), ("is_expr" : Str), ("has_form" : Str), ("inner_rows" : Str), ("are_rows" : Str), ("is_program" : Str), ("rows_within" : Str), ("uses" : Str), ("names_behind" : Str), ("names_at_end" : Str), ("first_lacking" : Str), ("steps_of" : Str), ("first_wrong" : Str), ("need_program" : Str), ("places_of" : Str), ("set_places" : Str), ("need_place" : Str), ("names_ahead" : Str), ("names_at" : Str), ("_law_begin" : Str), ("_law_mixed" : Str), ("_law_next" : Str), ("_law_words" : Str), ("_law_number" : Str), ("_law_expr" : Str), ("_law_rows" : Str), ("_law_steps" : Str), ("_law_fewer" : Str), ("_law_program" : Str), ("_law_small" : Str), ("_law_put_in" : Str), ("_law_all_put_in" : Str), ("_law_ways" : Str), ("_law_flat" : Str), ("_law_behind" : Str), ("_law_end" : Str), ("_law_used" : Str), ("_law_ahead" : Str), ("_law_twin" : Str), ("_law_nobody" : Str), ("_law_said" : Str), ("_law_right" : Str), ("_law_great" : Str), ("BitError" : Str), ("Unsound" : Str), ("BadProgram" : Str), ("BadPlace" : Str), ("SMALL" : Str), ("MOST_LETTERS" : Str), ("MOST_WIDE" : Str), ("MOST_INPUTS" : Str), ("MOST_ROWS" : Str), ("MOST_DEEP" : Str), ("MOST_ROUNDS" : Str), ("MOST_TURNED" : Str), ("MOST_MOVED" : Str), ("MOST_STEPS" : Str), ("PAIRS" : Str), ("MOVES" : Str)]
def frK (s : PySem.W.SharedT) : PySem.W.Frag := He.frG (HandSHeadRun.getT s) (cStatics :: reachD (HandSHeadRun.getT s) 4 [mainGlobals])
theorem obC (w : World) {o : Option PySem.W.SharedT} (x1 : o.map (fun s => fa.all fun f => f.ok (frK s)) = some true)
    (x3 : o.map (fun s => (fn.all fun d => d.ok (frK s), tabsOk ts (frK s), (atsB dtab (frK s) && xts.all fun t => t.ok (frK s)), dtab.map fun d => He.dicW (frK s) (He.ga (frK s) d.nm))) = some (true, true, true, dtab.map fun d => some (He.keysIn (PySem.World.params w) d.keys)))
    (x4 : o.map (fun s => fn.map fun d => He.fnW (frK s) d.at_) = some (fn.map He.DefD.val)) : o.map ob = some (hk.val w) := by
  cases o with
  | none => cases x1
  | some s =>
    have e := Option.some.inj x1
    have y3 := Option.some.inj x3
    have y4 := Option.some.inj x4
    dsimp only at e y3 y4
    obtain ⟨z1, z2⟩ := Prod.mk.inj y3
    obtain ⟨z3, z4⟩ := Prod.mk.inj z2
    obtain ⟨z5, z6⟩ := Prod.mk.inj z4
    show some (((((fa.all fun f => f.ok (frK s)) && fn.all fun d => d.ok (frK s), fn.map fun d => He.fnW (frK s) d.at_), tabsOk ts (frK s)), (atsB dtab (frK s) && xts.all fun t => t.ok (frK s)), dtab.map fun d => He.dicW (frK s) (He.ga (frK s) d.nm)) : AlN) = some ((((true, fn.map He.DefD.val), true), true, dtab.map fun d => some (He.keysIn (PySem.World.params w) d.keys)) : AlN)
    rw [e, z1, z3, z5, z6, y4]
    rfl
theorem map3 {α β γ δ : Type} {o : Option α} {f : α → β} {g : α → γ} {h : α → δ} {a : β} {b : γ} {c : δ} (x : o.map f = some a) (y : o.map g = some b) (z : o.map h = some c) : o.map (fun s => (f s, g s, h s)) = some (a, b, c) := by
  cases o with
  | none => cases x
  | some s => cases x; cases y; cases z; rfl
theorem and3 {p : Program} {h0 : Heap} {o : Option PySem.W.SharedT} (x : o.map (fun s => PySem.W.staticsOk (importedModules p.main.body) h0 s.abs.heap) = some true) (y : o.map (fun s => PySem.W.namesBound p s.abs.heap) = some true) (z : o.map (fun s => PySem.W.gensDone s.abs && PySem.W.laidKept h0 s.abs.heap) = some true) :
    o.map (fun s => HandSHeadRun.looksF p h0 s.abs) = some true := by
  cases o with
  | none => cases x
  | some s =>
    have x1 := Option.some.inj x
    have y1 := Option.some.inj y
    have z1 := Option.some.inj z
    show some (PySem.W.staticsOk (importedModules p.main.body) h0 s.abs.heap && PySem.W.namesBound p s.abs.heap && PySem.W.gensDone s.abs && PySem.W.laidKept h0 s.abs.heap) = some true
    dsimp only at x1 y1 z1
    rw [Bool.and_assoc, x1, y1, z1]
    rfl
set_option maxHeartbeats 0 in
theorem runA1 (w : World) (os : OsState) : Option.map (fun s => PySem.W.staticsOk (importedModules R0.prog.main.body) (W.boot_heap (PySem.World.params w)) s.abs.heap) (HandSHeadRun.endF (HandSHeadRun.stepQ (HandSHeadRun.denQ HandSHeadRun.tabQ) R0.prog w) 12000 R0.prog w os) = some true := by kernel_rfl
set_option maxHeartbeats 0 in
theorem runA2 (w : World) (os : OsState) : Option.map (fun s => PySem.W.namesBound R0.prog s.abs.heap) (HandSHeadRun.endF (HandSHeadRun.stepQ (HandSHeadRun.denQ HandSHeadRun.tabQ) R0.prog w) 12000 R0.prog w os) = some true := by kernel_rfl
set_option maxHeartbeats 0 in
theorem runA3 (w : World) (os : OsState) : Option.map (fun s => PySem.W.gensDone s.abs && PySem.W.laidKept (W.boot_heap (PySem.World.params w)) s.abs.heap) (HandSHeadRun.endF (HandSHeadRun.stepQ (HandSHeadRun.denQ HandSHeadRun.tabQ) R0.prog w) 12000 R0.prog w os) = some true := by kernel_rfl
set_option maxHeartbeats 0 in
theorem runD0 (w : World) (os : OsState) : Option.map (fun s => (fa).all fun f => f.ok (frK s)) (HandSHeadRun.endF (HandSHeadRun.stepQ (HandSHeadRun.denQ HandSHeadRun.tabQ) R0.prog w) 12000 R0.prog w os) = some true := by kernel_rfl
set_option maxHeartbeats 0 in
theorem runC3 (w : World) (os : OsState) : Option.map (fun s => (fn.all fun d => d.ok (frK s), tabsOk ts (frK s), (atsB dtab (frK s) && xts.all fun t => t.ok (frK s)), dtab.map fun d => He.dicW (frK s) (He.ga (frK s) d.nm))) (HandSHeadRun.endF (HandSHeadRun.stepQ (HandSHeadRun.denQ HandSHeadRun.tabQ) R0.prog w) 12000 R0.prog w os) = some (true, true, true, dtab.map fun d => some (He.keysIn (PySem.World.params w) d.keys)) := by kernel_rfl
set_option maxHeartbeats 0 in
theorem runC4 (w : World) (os : OsState) : Option.map (fun s => fn.map fun d => He.fnW (frK s) d.at_) (HandSHeadRun.endF (HandSHeadRun.stepQ (HandSHeadRun.denQ HandSHeadRun.tabQ) R0.prog w) 12000 R0.prog w os) = some (fn.map He.DefD.val) := by kernel_rfl
set_option maxHeartbeats 0 in
theorem runB (w : World) (os : OsState) : Option.map (fun s => HandSHeadRun.seenQ (PySem.W.view R0.prog [65]) looseN (importedModules R0.prog.main.body) (fun s => W.xlAt (PySem.W.view R0.prog [65]) [] s && W.recOk R0.records s) s.abs) (HandSHeadRun.endF (HandSHeadRun.stepQ (HandSHeadRun.denQ HandSHeadRun.tabQ) R0.prog w) 12000 R0.prog w os) = some (W.openGood (PySem.W.view R0.prog [65]) looseN) := by kernel_rfl
theorem runE (w : World) : HandSHeadRun.RunEq R0 (PySem.W.view R0.prog [65]) hk ob 12000 looseN w := fun os => map3 (and3 (runA1 w os) (runA2 w os) (runA3 w os)) (runB w os) (obC w (runD0 w os) (runC3 w os) (runC4 w os))
end DL
set_option Elab.async false
set_option linter.all false
set_option maxRecDepth 100000
set_option maxHeartbeats 2000000
namespace DL
open PySem PySem.Spec L2
open PyProof.Rows hiding St
/-- the built-in kinds -/
inductive Ty where
  | non | bl | int | str | tup | lst | dic | ve
def Ty.nm : Ty → String
  | .non => "NoneType" | .bl => "bool" | .int => "int" | .str => "str" | .tup => "tuple" | .lst => "list" | .dic => "dict" | .ve => "ValueError"
/-- a value by what it holds; pt: a tuple known to have no dict; o a: an object that may change, at a -/
inductive R where
  | non | bl (b : Bool) | int (i : Int) | str (x : Str) | tup (rs : List R) | lst (rs : List R) | o (a : Addr) | ty (n : Ty) | scr (ns : List Int) | pt (rs : List R)
  | ex (cls : Value) (ns : List Str) (rs : List R)
/-- j: what stands for ever; f: what must be kept, and is not looked at -/
structure Jp where
  j : Hp
  f : Hp
def Jp.put (J : Jp) (p : Addr) (o : HO) : Jp := ⟨upd J.j p o, J.f⟩
/-- a list that stands: tracked, or the module's own, to the sign -/
def Ls (K : PySem.W.Frag) (J : Hp) (a : Addr) (vs : List V) : Prop :=
  Rd J a (.lst vs) ∨ ∃ its : List Value, K.lookup a = some { cls := .type "list", data := .seq its.toArray } ∧ its.length ≤ sizeLine ∧ Vals vs its
theorem Ls.sq {K : PySem.W.Frag} {J : Hp} {a : Addr} {vs : List V} (h : Ls K J a vs) : SqL K J a vs := by
  rcases h with h | ⟨its, h1, h2, h3⟩
  · exact .inl h
  · exact .inr ⟨_, its.toArray, _, h1, rfl, rfl, rfl, by simpa using h2, by simpa using h3⟩
/-- at a: an exception of the class cls, its dict d -/
abbrev exk (a : Addr) (cls : Value) (d : Option Addr) : HO := .ext fun h => ∃ (oe : Obj) (vs : Array Value), h.get? a = some oe ∧ Zc cls d oe ∧ oe.data = .fields vs
/-- what an exception keeps: ns vs -/
def ExAt (J : Hp) : Option Addr → List Str → List V → Prop
  | none, ns, vs => ns = [] ∧ vs = []
  | some d, ns, vs => J d = some (.xd (ns.zip vs)) ∧ ns.length = vs.length
mutual
inductive RV (K : PySem.W.Frag) (J : Jp) : R → V → Prop
  | non : RV K J .non .non
  | bl (b : Bool) : RV K J (.bl b) (.bl b)
  | int (i : Int) : RV K J (.int i) (.int i)
  | str (x : Str) : RV K J (.str x) (.str x)
  | tup {a : Addr} {vs : List V} {rs : List R} : SqT K J.j a vs → RVs K J rs vs → RV K J (.tup rs) (.ref a)
  | lst {a : Addr} {vs : List V} {rs : List R} : J.j a = some (.lst vs) → RVs K J rs vs → RV K J (.lst rs) (.ref a)
  | o (a : Addr) : RV K J (.o a) (.ref a)
  | ty (n : Ty) : RV K J (.ty n) (.ty n.nm)
  | scr {a : Addr} {ns : List Int} : Ls K J.j a (ns.map V.int) → RV K J (.scr ns) (.ref a)
  /-- a tuple whose object is known: it has no dict -/
  | pt {a : Addr} {vs : List V} {rs : List R} {od : Obj} : J.j a = some (.frz od (.tup vs)) → od.dict = none → RVs K J rs vs → RV K J (.pt rs) (.ref a)
  | ex {a : Addr} {cls : Value} {d : Option Addr} {ns : List Str} {vs : List V} {rs : List R} : J.j a = some (exk a cls d) → ExAt J.j d ns vs → RVs K J rs vs → RV K J (.ex cls ns rs) (.ref a)
inductive RVs (K : PySem.W.Frag) (J : Jp) : List R → List V → Prop
  | nil : RVs K J [] []
  | cons {r : R} {v : V} {rs : List R} {vs : List V} : RV K J r v → RVs K J rs vs → RVs K J (r :: rs) (v :: vs)
end
/-- what stands stands further, what is kept is the same -/
def Ex (J J' : Jp) : Prop := (∀ a o, J.j a = some o → J'.j a = some o) ∧ J'.f = J.f
def ExH (J H : Hp) : Prop := ∀ a o, J a = some o → H a = some o
theorem Ex.rfl' {J : Jp} : Ex J J := ⟨fun _ _ h => h, rfl⟩
theorem Ex.trans {J J1 J2 : Jp} (a : Ex J J1) (b : Ex J1 J2) : Ex J J2 := ⟨fun x o h => b.1 x o (a.1 x o h), b.2.trans a.2⟩
theorem Ex.new {J : Jp} {p : Addr} {o : HO} (h : J.j p = none) : Ex J (J.put p o) := ⟨fun a u e => by
  show upd J.j p o a = _
  rw [upd_ne (ne_of_none e h)]; exact e, rfl⟩
theorem ExH.new {J : Hp} {p : Addr} {o : HO} (h : J p = none) : ExH J (upd J p o) := fun a u e => by
  rw [upd_ne (ne_of_none e h)]; exact e
theorem ExH.sqT {K : PySem.W.Frag} {J J' : Hp} {a : Addr} {vs : List V} (e : ExH J J') (h : SqT K J a vs) : SqT K J' a vs := by
  rcases h with (h | ⟨o, h⟩) | h
  · exact .inl (.inl (e _ _ h))
  · exact .inl (.inr ⟨o, e _ _ h⟩)
  · exact .inr h
theorem ExH.sqL {K : PySem.W.Frag} {J J' : Hp} {a : Addr} {vs : List V} (e : ExH J J') (h : SqL K J a vs) : SqL K J' a vs := by
  rcases h with (h | ⟨o, h⟩) | h
  · exact .inl (.inl (e _ _ h))
  · exact .inl (.inr ⟨o, e _ _ h⟩)
  · exact .inr h
theorem ExH.ls {K : PySem.W.Frag} {J J' : Hp} {a : Addr} {vs : List V} (e : ExH J J') (h : Ls K J a vs) : Ls K J' a vs := by
  rcases h with (h | ⟨o, h⟩) | h
  · exact .inl (.inl (e _ _ h))
  · exact .inl (.inr ⟨o, e _ _ h⟩)
  · exact .inr h
theorem ExH.exAt {J J' : Hp} (e : ExH J J') {d : Option Addr} {ns : List Str} {vs : List V} (h : ExAt J d ns vs) : ExAt J' d ns vs := by
  cases d with
  | none => exact h
  | some d => exact ⟨e _ _ h.1, h.2⟩
theorem Ex.h {J J' : Jp} (e : Ex J J') : ExH J.j J'.j := e.1
mutual
theorem RV.mj {K : PySem.W.Frag} {J J' : Jp} (e : ExH J.j J'.j) : ∀ {r : R} {v : V}, RV K J r v → RV K J' r v
  | _, _, .non => .non
  | _, _, .bl b => .bl b
  | _, _, .int i => .int i
  | _, _, .str x => .str x
  | _, _, .tup h hs => .tup (e.sqT h) (RVs.mj e hs)
  | _, _, .lst h hs => .lst (e _ _ h) (RVs.mj e hs)
  | _, _, .o a => .o a
  | _, _, .ty n => .ty n
  | _, _, .scr h => .scr (e.ls h)
  | _, _, .pt h h0 hs => .pt (e _ _ h) h0 (RVs.mj e hs)
  | _, _, .ex h h0 hs => .ex (e _ _ h) (e.exAt h0) (RVs.mj e hs)
theorem RVs.mj {K : PySem.W.Frag} {J J' : Jp} (e : ExH J.j J'.j) : ∀ {rs : List R} {vs : List V}, RVs K J rs vs → RVs K J' rs vs
  | _, _, .nil => .nil
  | _, _, .cons h hs => .cons (RV.mj e h) (RVs.mj e hs)
end
theorem RV.mono {K : PySem.W.Frag} {J J' : Jp} (e : Ex J J') {r : R} {v : V} (h : RV K J r v) : RV K J' r v := h.mj e.1
theorem RVs.mono {K : PySem.W.Frag} {J J' : Jp} (e : Ex J J') {rs : List R} {vs : List V} (h : RVs K J rs vs) : RVs K J' rs vs := h.mj e.1
section
variable {K : PySem.W.Frag} {J : Jp}
theorem RVs.len : ∀ {rs : List R} {vs : List V}, RVs K J rs vs → rs.length = vs.length
  | _, _, .nil => rfl
  | _, _, .cons _ hs => by rw [List.length_cons, List.length_cons, RVs.len hs]
theorem RVs.get : ∀ {rs : List R} {vs : List V} {i : Nat} {r : R}, RVs K J rs vs → rs[i]? = some r → ∃ v, vs[i]? = some v ∧ RV K J r v
  | _, _, _, _, .nil, e => by simp at e
  | _, _, 0, r, .cons h _, e => by simp at e; subst e; exact ⟨_, rfl, h⟩
  | _, _, i + 1, r, .cons _ hs, e => by
    obtain ⟨v, h1, h2⟩ := RVs.get (i := i) hs (by simpa using e)
    exact ⟨v, by simpa using h1, h2⟩
theorem RVs.app : ∀ {rs rs' : List R} {vs vs' : List V}, RVs K J rs vs → RVs K J rs' vs' → RVs K J (rs ++ rs') (vs ++ vs')
  | _, _, _, _, .nil, h => h
  | _, _, _, _, .cons a b, h => .cons a (RVs.app b h)
theorem RVs.set : ∀ {rs : List R} {vs : List V} {r : R} {v : V} (i : Nat), RVs K J rs vs → RV K J r v → RVs K J (rs.set i r) (vs.set i v)
  | _, _, _, _, _, .nil, _ => .nil
  | _, _, _, _, 0, .cons _ b, h => .cons h b
  | _, _, _, _, i + 1, .cons a b, h => .cons a (RVs.set i b h)
theorem RVs.take : ∀ {rs : List R} {vs : List V} (n : Nat), RVs K J rs vs → RVs K J (rs.take n) (vs.take n)
  | _, _, 0, _ => .nil
  | _, _, _ + 1, .nil => .nil
  | _, _, n + 1, .cons a b => .cons a (RVs.take n b)
theorem RVs.drop : ∀ {rs : List R} {vs : List V} (n : Nat), RVs K J rs vs → RVs K J (rs.drop n) (vs.drop n)
  | _, _, 0, h => h
  | _, _, _ + 1, .nil => .nil
  | _, _, n + 1, .cons _ b => RVs.drop n b
end
inductive MO where
  | lst (rs : List R)
  | dK (kvs : List (Key × R))
  | ins (C : Addr) (fs : List (Str × R))
  /-- the law's draw: its cells and its counts, whatever they are, the counts at most n -/
  | dr (n : Nat)
  /-- a dict that is being walked: it may be read -/
  | fK (od : Obj) (ws : List (Key × V)) (kvs : List (Key × R))
abbrev MH := Addr → Option MO
def updM (M : MH) (a : Addr) (m : MO) : MH := fun b => if b = a then some m else M b
theorem updM_same {M : MH} {a : Addr} {m : MO} : updM M a m a = some m := if_pos rfl
theorem updM_ne {M : MH} {a b : Addr} {m : MO} (h : b ≠ a) : updM M a m b = M b := if_neg h
theorem updM_updM {M : MH} {a : Addr} {m m' : MO} : updM (updM M a m) a m' = updM M a m' := by
  funext b; unfold updM; split <;> rfl
/-- all of M stands in M' -/
def Sub (M M' : MH) : Prop := ∀ a m, M a = some m → M' a = some m
theorem Sub.rfl' {M : MH} : Sub M M := fun _ _ h => h
theorem Sub.trans {M M1 M2 : MH} (a : Sub M M1) (b : Sub M1 M2) : Sub M M2 := fun x m h => b x m (a x m h)
theorem Sub.new {M M' : MH} {a : Addr} {m : MO} (s : Sub M M') (h : M a = none) : Sub M (updM M' a m) := fun b u e => by
  have n : b ≠ a := fun z => by rw [z, h] at e; cases e
  rw [updM_ne n]; exact s b u e
def KRV (K : PySem.W.Frag) (J : Jp) {κ : Type} : List (κ × R) → List (κ × V) → Prop := Paired fun p q => p.1 = q.1 ∧ RV K J p.2 q.2
theorem KRV.mj {K : PySem.W.Frag} {J J' : Jp} {κ : Type} (e : ExH J.j J'.j) : ∀ {ps : List (κ × R)} {qs : List (κ × V)}, KRV K J ps qs → KRV K J' ps qs
  | _, _, .nil => .nil
  | _, _, .cons ⟨a, b⟩ t => .cons ⟨a, b.mj e⟩ (KRV.mj e t)
theorem KRV.mono {K : PySem.W.Frag} {J J' : Jp} {κ : Type} (e : Ex J J') {ps : List (κ × R)} {qs : List (κ × V)} (h : KRV K J ps qs) : KRV K J' ps qs := h.mj e.1
/-- the law's draw: cells, at, left, used -/
def drKvs (ns : List Int) (t l u : Int) : List (Key × R) := [(.inr "cells", .lst (ns.map R.int)), (.inr "at", .int t), (.inr "left", .int l), (.inr "used", .int u)]
structure DrOk (n : Nat) (ns : List Int) (t l u : Int) : Prop where
  len : 1 ≤ ns.length ∧ ns.length ≤ 100
  at0 : 0 ≤ t ∧ 0 ≤ u ∧ t ≤ n ∧ u ≤ n
  left0 : 0 ≤ l
def KOk (K : PySem.W.Frag) (J : Jp) (H : Hp) (a : Addr) (kvs : List (Key × R)) : Prop := ∃ ws, H a = some (.dK ws) ∧ KRV K J kvs ws
def MOk (K : PySem.W.Frag) (J : Jp) (H : Hp) (a : Addr) : MO → Prop
  | .lst rs => ∃ vs, H a = some (.lst vs) ∧ RVs K J rs vs
  | .dK kvs => KOk K J H a kvs
  | .ins C fs => ∃ dx ws, H a = some (.ins C dx ws) ∧ KRV K J fs ws
  | .dr n => ∃ ns t l u, DrOk n ns t l u ∧ KOk K J H a (drKvs ns t l u)
  | .fK od ws kvs => H a = some (.frz od (.dK ws)) ∧ KRV K J kvs ws
/-- the state: J stands for ever, M may change -/
structure DSt (K : PySem.W.Frag) (J : Jp) (H : Hp) (M : MH) : Prop where
  ex : ExH J.j H
  fr : ExH J.f H
  fj : ∀ a o, J.f a = some o → J.j a = none
  no : ∀ a m, M a = some m → J.j a = none ∧ J.f a = none
  mo : ∀ a m, M a = some m → MOk K J H a m
theorem MOk.mono {K : PySem.W.Frag} {J J' : Jp} {H H' : Hp} {a : Addr} {m : MO} (e : Ex J J') (h : H' a = H a) (x : MOk K J H a m) : MOk K J' H' a m := by
  cases m with
  | lst rs => obtain ⟨vs, h1, h2⟩ := x; exact ⟨vs, h.trans h1, h2.mono e⟩
  | dK kvs => obtain ⟨vs, h1, h2⟩ := x; exact ⟨vs, h.trans h1, h2.mono e⟩
  | ins C fs => obtain ⟨dx, vs, h1, h2⟩ := x; exact ⟨dx, vs, h.trans h1, h2.mono e⟩
  | dr n => obtain ⟨ns, t, l, u, h0, vs, h1, h2⟩ := x; exact ⟨ns, t, l, u, h0, vs, h.trans h1, h2.mono e⟩
  | fK od ws kvs => exact ⟨h.trans x.1, x.2.mono e⟩
theorem MOk.some {K : PySem.W.Frag} {J : Jp} {H : Hp} {a : Addr} {m : MO} (x : MOk K J H a m) : ∃ o, H a = some o := by
  cases m with
  | lst rs => obtain ⟨vs, h1, h2⟩ := x; exact ⟨_, h1⟩
  | dK kvs => obtain ⟨vs, h1, h2⟩ := x; exact ⟨_, h1⟩
  | ins C fs => obtain ⟨dx, vs, h1, h2⟩ := x; exact ⟨_, h1⟩
  | dr n => obtain ⟨ns, t, l, u, h0, vs, h1, h2⟩ := x; exact ⟨_, h1⟩
  | fK od ws kvs => exact ⟨_, x.1⟩
section
variable {K : PySem.W.Frag} {J : Jp} {H : Hp} {M M' : MH} {p : Addr} {o : HO}
theorem DSt.sub (d : DSt K J H M) (s : Sub M' M) : DSt K J H M' := ⟨d.ex, d.fr, d.fj, fun a m e => d.no a m (s a m e), fun a m e => d.mo a m (s a m e)⟩
theorem none_of {J H : Hp} (e : ExH J H) (h : H p = none) : J p = none := by
  cases q : J p with
  | none => rfl
  | some o => have := e _ _ q; rw [h] at this; cases this
theorem DSt.jnone (d : DSt K J H M) (h : H p = none) : J.j p = none := none_of d.ex h
theorem DSt.fnone (d : DSt K J H M) (h : H p = none) : J.f p = none := none_of d.fr h
theorem DSt.mnone (d : DSt K J H M) (h : H p = none) : M p = none := by
  cases e : M p with
  | none => rfl
  | some m => obtain ⟨q, hq⟩ := (d.mo p m e).some; rw [h] at hq; cases hq
theorem DSt.mne (d : DSt K J H M) (h : H p = none) : ∀ a m, M a = some m → a ≠ p := fun a m e z => by
  rw [z, d.mnone h] at e; cases e
/-- a new object that stands for ever -/
theorem DSt.new (d : DSt K J H M) (h : H p = none) : DSt K (J.put p o) (upd H p o) M := by
  refine ⟨fun a q e => ?_, fun a q e => ?_, fun a q e => ?_, fun a m e => ?_, fun a m e => ?_⟩
  · have e' : upd J.j p o a = some q := e
    by_cases z : a = p
    · rw [z, upd_same] at e' ⊢; exact e'
    · rw [upd_ne z] at e' ⊢; exact d.ex _ _ e'
  · rw [upd_ne (ne_of_none e (d.fnone h))]; exact d.fr _ _ e
  · show upd J.j p o a = none
    rw [upd_ne (ne_of_none e (d.fnone h))]; exact d.fj _ _ e
  · show upd J.j p o a = none ∧ _
    rw [upd_ne (d.mne h a m e)]; exact d.no a m e
  · exact (d.mo a m e).mono (Ex.new (d.jnone h)) (upd_ne (d.mne h a m e))
/-- a new object that may change -/
theorem DSt.newM (d : DSt K J H M) {m : MO} (h : H p = none) (x : MOk K J (upd H p o) p m) : DSt K J (upd H p o) (updM M p m) := by
  refine ⟨fun a q e => ?_, fun a q e => ?_, d.fj, fun a u e => ?_, fun a u e => ?_⟩
  · rw [upd_ne (ne_of_none e (d.jnone h))]; exact d.ex _ _ e
  · rw [upd_ne (ne_of_none e (d.fnone h))]; exact d.fr _ _ e
  · by_cases z : a = p
    · rw [z]; exact ⟨d.jnone h, d.fnone h⟩
    · rw [updM_ne z] at e; exact d.no a u e
  · by_cases z : a = p
    · rw [z, updM_same] at e; cases e; rw [z]; exact x
    · rw [updM_ne z] at e; exact (d.mo a u e).mono Ex.rfl' (upd_ne z)
/-- a change -/
theorem DSt.put (d : DSt K J H M) {m m' : MO} (h : M p = some m) (x : MOk K J (upd H p o) p m') : DSt K J (upd H p o) (updM M p m') := by
  refine ⟨fun a q e => ?_, fun a q e => ?_, d.fj, fun a u e => ?_, fun a u e => ?_⟩
  · rw [upd_ne (ne_of_none e (d.no p m h).1)]; exact d.ex _ _ e
  · rw [upd_ne (ne_of_none e (d.no p m h).2)]; exact d.fr _ _ e
  · by_cases z : a = p
    · rw [z]; exact d.no p m h
    · rw [updM_ne z] at e; exact d.no a u e
  · by_cases z : a = p
    · rw [z, updM_same] at e; cases e; rw [z]; exact x
    · rw [updM_ne z] at e; exact (d.mo a u e).mono Ex.rfl' (upd_ne z)
/-- a list that changes no more stands for ever: M' is M without it -/
theorem DSt.freeze (d : DSt K J H M) {rs : List R} (h : M p = some (.lst rs)) (s : Sub M' M) (hn : M' p = none) : ∃ J', Ex J J' ∧ DSt K J' H M' ∧ RV K J' (.lst rs) (.ref p) := by
  obtain ⟨vs, h1, h2⟩ := d.mo p _ h
  have n := d.no p _ h
  have e : Ex J (J.put p (.lst vs)) := Ex.new n.1
  refine ⟨J.put p (.lst vs), e, ⟨fun a q z => ?_, d.fr, fun a q z => ?_, fun a m z => ?_, fun a m z => (d.mo a m (s a m z)).mono e rfl⟩, .lst upd_same (h2.mono e)⟩
  · have z' : upd J.j p (.lst vs) a = some q := z
    by_cases w : a = p
    · rw [w, upd_same] at z'; rw [w, h1, z']
    · rw [upd_ne w] at z'; exact d.ex _ _ z'
  · show upd J.j p (.lst vs) a = none
    rw [upd_ne (ne_of_none z n.2)]; exact d.fj _ _ z
  · have w : a ≠ p := fun w => by rw [w, hn] at z; cases z
    show upd J.j p (.lst vs) a = none ∧ _
    rw [upd_ne w]; exact d.no a m (s a m z)
end
abbrev G := List (Option R)
def RG (K : PySem.W.Frag) (J : Jp) (g : G) (σ : St) : Prop := g.length = σ.length ∧ ∀ (i : Nat) (r : R), g[i]? = some (some r) → ∃ v, σ[i]? = some (some v) ∧ RV K J r v
theorem RG.mono {K : PySem.W.Frag} {J J' : Jp} {g : G} {σ : St} (e : Ex J J') (h : RG K J g σ) : RG K J' g σ :=
  ⟨h.1, fun i r x => let ⟨v, h1, h2⟩ := h.2 i r x; ⟨v, h1, h2.mono e⟩⟩
theorem RG.set {K : PySem.W.Frag} {J : Jp} {g : G} {σ : St} {r : R} {v : V} (i : Nat) (h : RG K J g σ) (x : RV K J r v) : RG K J (g.set i (some r)) (σ.set i (some v)) := by
  refine ⟨by rw [List.length_set, List.length_set]; exact h.1, fun j s e => ?_⟩
  by_cases z : i = j
  · subst z
    have hl : i < g.length := by
      have := (List.getElem?_eq_some_iff.mp e).1
      rwa [List.length_set] at this
    rw [List.getElem?_set_self hl] at e
    cases e
    exact ⟨v, List.getElem?_set_self (by rw [← h.1]; exact hl), x⟩
  · rw [List.getElem?_set_ne z] at e ⊢
    exact h.2 j s e
def wipeG (g : G) : List Nat → G
  | [] => g
  | v :: vs => (wipeG g vs).set v none
theorem RG.wipe {K : PySem.W.Frag} {J : Jp} {g : G} {σ : St} (h : RG K J g σ) : ∀ vs : List Nat, RG K J (wipeG g vs) (L2.wipe σ vs)
  | [] => h
  | v :: vs => by
    have ih := RG.wipe h vs
    refine ⟨by unfold wipeG L2.wipe; rw [List.length_set, List.length_set]; exact ih.1, fun j s e => ?_⟩
    unfold wipeG at e
    unfold L2.wipe
    by_cases z : v = j
    · subst z
      have hl : v < (wipeG g vs).length := by
        have := (List.getElem?_eq_some_iff.mp e).1
        rwa [List.length_set] at this
      rw [List.getElem?_set_self hl] at e
      cases e
    · rw [List.getElem?_set_ne z] at e ⊢
      exact ih.2 j s e
abbrev DP := R → MH → Prop
theorem RV.ptT {K : PySem.W.Frag} {J : Hp} {a : Addr} {vs : List V} {od : Obj} (h : J a = some (.frz od (.tup vs))) : SqT K J a vs := .inl (.inr ⟨od, h⟩)
/-- what is wished of an exception: its class, its own fields -/
abbrev DX := Value → Option (List (Str × R)) → MH → Prop
abbrev WE := G → MH → DP → DX → Prop
abbrev WT := G → MH → (Bool → MH → Prop) → DX → Prop
abbrev WA := G → MH → (List R → MH → Prop) → DX → Prop
abbrev EW := Value → Option Addr → Hp → Prop
def XD (K : PySem.W.Frag) (J : Jp) (H : Hp) : Option Addr → Option (List (Str × R)) → Prop
  | none, none => True
  | some d, some fs => ∃ ws, J.j d = some (.xd ws) ∧ KRV K J fs ws
  | _, _ => False
def Cont (K : PySem.W.Frag) (J : Jp) (P : DP) (Q : VK) : Prop := ∀ r v J' H' M', P r M' → Ex J J' → DSt K J' H' M' → RV K J' r v → Q v H'
def ContB (K : PySem.W.Frag) (J : Jp) (P : Bool → MH → Prop) (Q : Bool → Hp → Prop) : Prop := ∀ b J' H' M', P b M' → Ex J J' → DSt K J' H' M' → Q b H'
def ContA (K : PySem.W.Frag) (n : Nat) (J : Jp) (P : List R → MH → Prop) (Q : List V → Hp → Prop) : Prop := ∀ rs vs J' H' M', P rs M' → rs.length = n → Ex J J' → DSt K J' H' M' → RVs K J' rs vs → Q vs H'
def ContX (K : PySem.W.Frag) (J : Jp) (xw : DX) (E : EW) : Prop := ∀ cls fs d J' H' M', xw cls fs M' → Ex J J' → DSt K J' H' M' → XD K J' H' d fs → E cls d H'
section
variable {K : PySem.W.Frag} {J J1 : Jp}
theorem Cont.mono {P : DP} {Q : VK} (h : Cont K J P Q) (e : Ex J J1) : Cont K J1 P Q := fun r v J' H' M' p e' => h r v J' H' M' p (e.trans e')
theorem ContB.mono {P : Bool → MH → Prop} {Q : Bool → Hp → Prop} (h : ContB K J P Q) (e : Ex J J1) : ContB K J1 P Q := fun r J' H' M' p e' => h r J' H' M' p (e.trans e')
theorem ContA.mono {n : Nat} {P : List R → MH → Prop} {Q : List V → Hp → Prop} (h : ContA K n J P Q) (e : Ex J J1) : ContA K n J1 P Q := fun r v J' H' M' p l e' => h r v J' H' M' p l (e.trans e')
theorem ContX.mono {xw : DX} {E : EW} (h : ContX K J xw E) (e : Ex J J1) : ContX K J1 xw E := fun r v d J' H' M' p e' => h r v d J' H' M' p (e.trans e')
end
abbrev WW := Value → Option Addr → St → Hp → Prop
def Sim (K : PySem.W.Frag) (W : WW) (te : TE) (w : WE) : Prop := ∀ (J : Jp) (H : Hp) (σ : St) (g : G) (M : MH) (P : DP) (xw : DX) (Q : VK), DSt K J H M → RG K J g σ → w g M P xw → Cont K J P Q → ContX K J xw (fun c d H => W c d σ H) → te σ H Q
def SimT (K : PySem.W.Frag) (W : WW) (te : TT) (w : WT) : Prop := ∀ (J : Jp) (H : Hp) (σ : St) (g : G) (M : MH) (P : Bool → MH → Prop) (xw : DX) (Q : Bool → Hp → Prop), DSt K J H M → RG K J g σ → w g M P xw → ContB K J P Q → ContX K J xw (fun c d H => W c d σ H) → te σ H Q
def SimA (K : PySem.W.Frag) (W : WW) (n : Nat) (te : TA) (w : WA) : Prop := ∀ (J : Jp) (H : Hp) (σ : St) (g : G) (M : MH) (P : List R → MH → Prop) (xw : DX) (Q : List V → Hp → Prop), DSt K J H M → RG K J g σ → w g M P xw → ContA K n J P Q → ContX K J xw (fun c d H => W c d σ H) → te σ H Q
structure DE (X : Cx) (W : WW) (e : Expr) (w : WE) : Prop where
  ex : ∃ te, PE X e te ∧ Sim X.K W te w
structure DT (X : Cx) (W : WW) (e : Expr) (w : WT) : Prop where
  ex : ∃ te, PT X e te ∧ SimT X.K W te w
/-- a test, whatever its whole is -/
structure DW (X : Cx) (W : WW) (e : Expr) (w : WT) : Prop where
  ex : ∃ te, PW X e te ∧ SimT X.K W te w
structure DA (X : Cx) (W : WW) (es : List Expr) (w : WA) : Prop where
  ex : ∃ te, PA X es te ∧ SimA X.K W es.length te w
section
variable {X : Cx} {W : WW} {pos : Pos}
def wVar (i : Nat) : WE := fun g M P _ => match g[i]? with
  | some (some r) => P r M
  | _ => False
theorem de_var (i : Nat) {x : Str} (hN : X.N[i]? = some x := by rfl) (hv : Vis X.env.scope x := by first | exact Or.inl rfl | exact Or.inr (Or.inl rfl) | exact Or.inr (Or.inr rfl)) (hd : (x == ("__debug__" : Str)) = false := by decide)
    (hcd : (x == ("__classdict__" : Str)) = false := by decide) : DE X W (.Name x pos) (wVar i) := by
  refine ⟨tVar i, pe_var hN hv hd hcd, fun J H σ g M P xw Q d rg h c _ => ?_⟩
  unfold wVar at h
  split at h
  · rename_i r e
    obtain ⟨v, h1, h2⟩ := rg.2 i r e
    exact ⟨v, h1, c r v J H M h Ex.rfl' d h2⟩
  · exact h.elim
def wC (r : R) : WE := fun _ M P _ => P r M
theorem de_int {i j} : DE X W (.Constant (.int i) j pos) (wC (.int i)) := ⟨_, pe_int, fun J H _ _ M _ _ _ d _ h c _ => c (.int i) (.int i) J H M h Ex.rfl' d (.int i)⟩
theorem de_bl {i j} : DE X W (.Constant (.bool i) j pos) (wC (.bl i)) := ⟨_, pe_bl, fun J H _ _ M _ _ _ d _ h c _ => c (.bl i) (.bl i) J H M h Ex.rfl' d (.bl i)⟩
theorem de_non {j} : DE X W (.Constant .none j pos) (wC .non) := ⟨_, pe_non, fun J H _ _ M _ _ _ d _ h c _ => c .non .non J H M h Ex.rfl' d .non⟩
theorem de_str {i j} : DE X W (.Constant (.str i) j pos) (wC (.str i)) := ⟨_, pe_str, fun J H _ _ M _ _ _ d _ h c _ => c (.str i) (.str i) J H M h Ex.rfl' d (.str i)⟩
/-- a constant of the module -/
theorem de_gint {x : Str} {i : Int} (hm : ∃ t, X.mg x = some (.int i t)) (hg : Gl X x := by rfl) (hd : (x == ("__debug__" : Str)) = false := by decide) : DE X W (.Name x pos) (wC (.int i)) := by
  obtain ⟨t, hm⟩ := hm
  exact ⟨_, pe_glob (v := .int i) hg hm ⟨t, rfl⟩ hd, fun J H _ _ M _ _ _ d _ h c _ => c (.int i) (.int i) J H M h Ex.rfl' d (.int i)⟩
theorem de_gstr {x z : Str} (hm : ∃ t, X.mg x = some (.str z t)) (hg : Gl X x := by rfl) (hd : (x == ("__debug__" : Str)) = false := by decide) : DE X W (.Name x pos) (wC (.str z)) := by
  obtain ⟨t, hm⟩ := hm
  exact ⟨_, pe_glob (v := .str z) hg hm ⟨t, rfl⟩ hd, fun J H _ _ M _ _ _ d _ h c _ => c (.str z) (.str z) J H M h Ex.rfl' d (.str z)⟩
/-- a tuple of the module -/
theorem de_gtup {x : Str} {a : Addr} {rs : List R} (hm : X.mg x = some (.ref a)) (hs : ∀ J : Jp, RV X.K J (.tup rs) (.ref a)) (hg : Gl X x := by rfl) (hd : (x == ("__debug__" : Str)) = false := by decide) : DE X W (.Name x pos) (wC (.tup rs)) :=
  ⟨_, pe_glob (v := .ref a) hg hm rfl hd, fun J H _ _ M _ _ _ d _ h c _ => c (.tup rs) (.ref a) J H M h Ex.rfl' d (hs J)⟩
/-- an operation on two values -/
abbrev D2 := R → R → MH → DP → Prop
def Sim2 (K : PySem.W.Frag) (r : R2) (f : D2) : Prop := ∀ (J : Jp) (H : Hp) (M : MH) (x y : R) (v u : V) (P : DP) (Q : VK), DSt K J H M → RV K J x v → RV K J y u → f x y M P → Cont K J P Q → r v u H Q
def wOp (f : D2) (wa wb : WE) : WE := fun g M P xw => wa g M (fun x M1 => wb g M1 (fun y M2 => f x y M2 P) xw) xw
theorem Sim.op {K : PySem.W.Frag} {ta tb : TE} {wa wb : WE} {r : R2} {f : D2} (s : Sim2 K r f) (ha : Sim K W ta wa) (hb : Sim K W tb wb) : Sim K W (tOp r ta tb) (wOp f wa wb) :=
  fun J H σ g M P xw Q d rg h c cx => ha J H σ g M _ xw _ d rg h (fun x v J1 H1 M1 p1 e1 d1 r1 =>
    hb J1 H1 σ g M1 _ xw _ d1 (rg.mono e1) p1 (fun y u J2 H2 M2 p2 e2 d2 r2 => s J2 H2 M2 x y v u P Q d2 (r1.mono e2) r2 p2 ((c.mono e1).mono e2)) (cx.mono e1)) cx
theorem de_op {op : Operator} {r : R2} {f : D2} {a b : Expr} {wa wb : WE} (ho : OpR X (binaryOp op) r) (s : Sim2 X.K r f) (ha : DE X W a wa) (hb : DE X W b wb) : DE X W (.BinOp a op b pos) (wOp f wa wb) := by
  obtain ⟨ta, pa, sa⟩ := ha
  obtain ⟨tb, pb, sb⟩ := hb
  exact ⟨_, pe_op ho pa pb, sa.op s sb⟩
theorem de_cmp {op : CmpOp} {r : R2} {f : D2} {a b : Expr} {wa wb : WE} (ho : OpR X (compareOp op) r) (s : Sim2 X.K r f) (ha : DE X W a wa) (hb : DE X W b wb) (hm : behindInMarks op b = false := by rfl) : DE X W (.Compare a [op] [b] pos) (wOp f wa wb) := by
  obtain ⟨ta, pa, sa⟩ := ha
  obtain ⟨tb, pb, sb⟩ := hb
  exact ⟨_, pe_cmpR ho pa pb hm, sa.op s sb⟩
end
end DL
set_option Elab.async false
set_option linter.all false
set_option maxRecDepth 100000
set_option maxHeartbeats 2000000
namespace DL
open PySem PySem.Spec L2
open PyProof.Rows hiding St
/-- a list, standing or changing -/
def LsOf (M : MH) (x : R) (rs : List R) : Prop := match x with
  | .lst rs' => rs' = rs
  | .scr ns => ns.map R.int = rs
  | .o a => M a = some (.lst rs)
  | _ => False
/-- .. not the script -/
def LtOf (M : MH) (x : R) (rs : List R) : Prop := match x with
  | .lst rs' => rs' = rs
  | .o a => M a = some (.lst rs)
  | _ => False
theorem ints_rvs {K : PySem.W.Frag} {J : Jp} : ∀ ns : List Int, RVs K J (ns.map R.int) (ns.map V.int)
  | [] => .nil
  | n :: ns => .cons (.int n) (ints_rvs ns)
section
variable {K : PySem.W.Frag} {J : Jp} {H : Hp} {M : MH} {P : DP} {Q : VK}
theorem LsOf.get {x : R} {v : V} {rs : List R} (d : DSt K J H M) (r : RV K J x v) (h : LsOf M x rs) : ∃ a vs, v = .ref a ∧ Ls K H a vs ∧ RVs K J rs vs := by
  cases r with
  | lst h1 h2 =>
    have e : _ = rs := h
    subst e
    exact ⟨_, _, rfl, .inl (.inl (d.ex _ _ h1)), h2⟩
  | scr h1 =>
    have e : _ = rs := h
    subst e
    exact ⟨_, _, rfl, d.ex.ls h1, ints_rvs _⟩
  | o a =>
    obtain ⟨vs, h1, h2⟩ := d.mo a _ h
    exact ⟨a, vs, rfl, .inl (.inl h1), h2⟩
  | _ => exact False.elim h
theorem LtOf.get {x : R} {v : V} {rs : List R} (d : DSt K J H M) (r : RV K J x v) (h : LtOf M x rs) : ∃ a vs, v = .ref a ∧ H a = some (.lst vs) ∧ RVs K J rs vs := by
  cases r with
  | lst h1 h2 =>
    have e : _ = rs := h
    subst e
    exact ⟨_, _, rfl, d.ex _ _ h1, h2⟩
  | o a =>
    obtain ⟨vs, h1, h2⟩ := d.mo a _ h
    exact ⟨a, vs, rfl, h1, h2⟩
  | _ => exact False.elim h
/-- what follows with a new tuple, a new list that stands, a new list that changes, a new dict -/
theorem newT (d : DSt K J H M) (c : Cont K J P Q) {rs : List R} {vs : List V} (h : P (.tup rs) M) (r : RVs K J rs vs) : ∀ p, H p = none → Q (.ref p) (upd H p (.tup vs)) := fun p hp =>
  c (.tup rs) (.ref p) (J.put p (.tup vs)) _ M h (Ex.new (d.jnone hp)) (d.new hp) (.tup (.inl (.inl upd_same)) (r.mono (Ex.new (d.jnone hp))))
theorem newL (d : DSt K J H M) (c : Cont K J P Q) {rs : List R} {vs : List V} (h : P (.lst rs) M) (r : RVs K J rs vs) : ∀ p, H p = none → Q (.ref p) (upd H p (.lst vs)) := fun p hp =>
  c (.lst rs) (.ref p) (J.put p (.lst vs)) _ M h (Ex.new (d.jnone hp)) (d.new hp) (.lst upd_same (r.mono (Ex.new (d.jnone hp))))
theorem newO (d : DSt K J H M) (c : Cont K J P Q) {rs : List R} {vs : List V} (h : ∀ a, M a = none → P (.o a) (updM M a (.lst rs))) (r : RVs K J rs vs) : ∀ p, H p = none → Q (.ref p) (upd H p (.lst vs)) := fun p hp =>
  c (.o p) (.ref p) J _ _ (h p (d.mnone hp)) Ex.rfl' (d.newM hp ⟨vs, upd_same, r⟩) (.o p)
mutual
def R.py : R → Option PyData
  | .non => some .none
  | .bl b => some (.bool b)
  | .int i => some (.int i)
  | .str x => some (.str x)
  | .tup rs => (R.pys rs).map .tuple
  | .lst rs => (R.pys rs).map .list
  | .o _ => none
  | .ty _ => none
  | .scr _ => none
  | .pt rs => (R.pys rs).map .tuple
  | .ex _ _ _ => none
def R.pys : List R → Option (List PyData)
  | [] => some []
  | r :: rs => match r.py, R.pys rs with
    | some d, some ds => some (d :: ds)
    | _, _ => none
end
mutual
theorem RV.dp {K : PySem.W.Frag} {J : Jp} : ∀ {r : R} {v : V}, RV K J r v → ∀ {d : PyData}, r.py = some d → Dp K J.j v d
  | _, _, .non, _, e => by cases e; exact .non
  | _, _, .bl b, _, e => by cases e; exact .bl b
  | _, _, .int i, _, e => by cases e; exact .int i
  | _, _, .str x, _, e => by cases e; exact .str x
  | _, _, .tup h hs, d, e => by
    rw [R.py] at e
    obtain ⟨ds, e1, e2⟩ := Option.map_eq_some_iff.mp e
    subst e2
    exact .tup h (RVs.dp hs e1)
  | _, _, .lst h hs, d, e => by
    rw [R.py] at e
    obtain ⟨ds, e1, e2⟩ := Option.map_eq_some_iff.mp e
    subst e2
    exact .lst (.inl (.inl h)) (RVs.dp hs e1)
  | _, _, .o a, _, e => by cases e
  | _, _, .ty a, _, e => by cases e
  | _, _, .ex _ _ _, _, e => by cases e
  | _, _, .scr h, _, e => by cases e
  | _, _, .pt h h0 hs, d, e => by
    rw [R.py] at e
    obtain ⟨ds, e1, e2⟩ := Option.map_eq_some_iff.mp e
    subst e2
    exact .tup (.inl (.inr ⟨_, h⟩)) (RVs.dp hs e1)
theorem RVs.dp {K : PySem.W.Frag} {J : Jp} : ∀ {rs : List R} {vs : List V}, RVs K J rs vs → ∀ {ds : List PyData}, R.pys rs = some ds → DpAll K J.j vs ds
  | _, _, .nil, _, e => by cases e; exact .nil
  | _, _, .cons (r := r) (rs := rs) h hs, ds, e => by
    rw [R.pys] at e
    cases e1 : r.py with
    | none => rw [e1] at e; cases e
    | some d =>
      cases e2 : R.pys rs with
      | none => rw [e1, e2] at e; cases e
      | some ds' =>
        rw [e1, e2] at e
        cases e
        exact .cons (RV.dp h e1) (RVs.dp hs e2)
end
mutual
theorem dp_mono {K : PySem.W.Frag} {J J' : Hp} (e : ExH J J') : ∀ {v : V} {d : PyData}, Dp K J v d → Dp K J' v d
  | _, _, .non => .non
  | _, _, .bl b => .bl b
  | _, _, .int i => .int i
  | _, _, .str x => .str x
  | _, _, .lst h hs => .lst (e.sqL h) (dps_mono e hs)
  | _, _, .tup h hs => .tup (e.sqT h) (dps_mono e hs)
theorem dps_mono {K : PySem.W.Frag} {J J' : Hp} (e : ExH J J') : ∀ {vs : List V} {ds : List PyData}, DpAll K J vs ds → DpAll K J' vs ds
  | _, _, .nil => .nil
  | _, _, .cons h hs => .cons (dp_mono e h) (dps_mono e hs)
end
def PyOf (M : MH) (x : R) (d : PyData) : Prop := x.py = some d ∨ ∃ a rs ds, x = .o a ∧ M a = some (.lst rs) ∧ R.pys rs = some ds ∧ d = .list ds
theorem PyOf.dp {x : R} {v : V} {dd : PyData} (d : DSt K J H M) (r : RV K J x v) (h : PyOf M x dd) : Dp K H v dd := by
  rcases h with h | ⟨a, rs, ds, rfl, h1, h2, rfl⟩
  · exact dp_mono d.ex (r.dp h)
  · cases r
    obtain ⟨vs, h3, h4⟩ := d.mo a _ h1
    exact .lst (.inl (.inl h3)) (dps_mono d.ex (RVs.dp h4 h2))
def rCatLs (K : PySem.W.Frag) : R2 := fun x y H Q => ∃ l b xs zs, x = .ref l ∧ y = .ref b ∧ Ls K H l xs ∧ Ls K H b zs ∧ xs.length + zs.length ≤ sizeLine ∧ ∀ p, H p = none → Q (.ref p) (upd H p (.lst (xs ++ zs)))
end
section
variable {X : Cx}
theorem ls_obj {pins : List (Addr × Obj)} {σ : L2.St} {H : Hp} {s : Shared} {a : Addr} {xs : List V} (I : Inv X pins σ H s) (h : Ls X.K H a xs) :
    ∃ (its : List Value) (n : Nat), Vals xs its ∧ xs.length ≤ sizeLine ∧ s.heap.get? a = some { cls := .type "list", data := .seq its.toArray n } := by
  rcases h with h | ⟨its, h1, h2, h3⟩
  · obtain ⟨z, its, n, r, e⟩ := h.ok I.hok
    exact ⟨its, n, r, z, e⟩
  · exact ⟨its, _, h3, by rw [h3.length]; exact h2, I.kIn a _ h1⟩
theorem op_catLs : OpR X (binaryOp .Add) (rCatLs X.K) := by
  intro pins s σ H x y v u Q I rx ry h
  obtain ⟨l, b, xs, zs, rfl, rfl, hl, hb, hz, q⟩ := h
  cases rx
  cases ry
  obtain ⟨its, n, r1, _, e1⟩ := ls_obj I hl
  obtain ⟨its2, n2, r2, _, e2⟩ := ls_obj I hb
  have l1 := r1.length
  have l2 := r2.length
  refine PySem.P.add_list e1 e2 ?_ (by rw [List.size_toArray, List.size_toArray]; omega)
  rw [show its.toArray ++ its2.toArray = (its ++ its2).toArray by simp]
  exact ⟨.ref _, _, I.lnew (t' := s.toks) (r1.append r2) (by rw [List.length_append]; exact hz), rfl, q _ I.fresh⟩
def rAddU (K : PySem.W.Frag) : R2 := fun x y H Q => rI0 (fun i j => .int (i + j)) x y H Q ∨ ((∃ i k, x = .int i ∧ y = .bl k ∧ Q (.int (i + b2i k)) H) ∨
  ((∃ i j, x = .str i ∧ y = .str j ∧ i.length + j.length ≤ sizeLine ∧ Q (.str (i ++ j)) H) ∨ (rCatA K x y H Q ∨ rCatLs K x y H Q)))
theorem op_addU : OpR X (binaryOp .Add) (rAddU X.K) := op_add.or (op_add_ib.or (op_add_str.or (op_catA.or op_catLs)))
end
section
variable {K : PySem.W.Frag} {J : Jp} {H : Hp} {M : MH} {P : DP} {Q : VK}
def dAdd : D2 := fun x y M P => match x, y with
  | .int i, .int j => P (.int (i + j)) M
  | .int i, .bl k => P (.int (i + b2i k)) M
  | .str a, .str b => a.length + b.length ≤ sizeLine ∧ P (.str (a ++ b)) M
  | .tup a, .tup b => a.length + b.length ≤ sizeLine ∧ P (.tup (a ++ b)) M
  | x, y => ∃ a b, LsOf M x a ∧ LsOf M y b ∧ a.length + b.length ≤ sizeLine ∧ P (.lst (a ++ b)) M
theorem sim_add : Sim2 K (rAddU K) dAdd := by
  intro J H M x y v u P Q d rx ry h c
  unfold dAdd at h
  split at h
  · cases rx; cases ry
    exact .inl ⟨_, _, rfl, rfl, c _ _ J H M h Ex.rfl' d (.int _)⟩
  · cases rx; cases ry
    exact .inr (.inl ⟨_, _, rfl, rfl, c _ _ J H M h Ex.rfl' d (.int _)⟩)
  · cases rx; cases ry
    exact .inr (.inr (.inl ⟨_, _, rfl, rfl, h.1, c _ _ J H M h.2 Ex.rfl' d (.str _)⟩))
  · rename_i rs rs'
    cases rx with
    | tup h1 h2 =>
      cases ry with
      | tup h3 h4 =>
        refine .inr (.inr (.inr (.inl ⟨_, _, _, _, rfl, rfl, d.ex.sqT h1, d.ex.sqT h3, by rw [← h2.len, ← h4.len]; exact h.1, fun e => ?_, fun e e' => ?_, fun _ _ => newT d c h.2 (h2.app h4)⟩)))
        · subst e
          cases h2
          exact c (.tup ([] ++ rs')) _ J H M h.2 Ex.rfl' d (.tup h3 h4)
        · subst e'
          cases h4
          have e2 : rs ++ [] = rs := List.append_nil rs
          exact c (.tup rs) _ J H M (e2 ▸ h.2) Ex.rfl' d (.tup h1 h2)
  · obtain ⟨a, b, h1, h2, h3, h4⟩ := h
    obtain ⟨p, vs, e1, l1, r1⟩ := h1.get d rx
    obtain ⟨q, us, e2, l2, r2⟩ := h2.get d ry
    exact .inr (.inr (.inr (.inr ⟨_, _, _, _, e1, e2, l1, l2, by rw [← r1.len, ← r2.len]; exact h3, newL d c h4 (r1.app r2)⟩)))
def dI0 (g : Int → Int → R) : D2 := fun x y M P => match x, y with
  | .int i, .int j => P (g i j) M
  | _, _ => False
def dIC (C : Int → Int → Prop) (g : Int → Int → Int) : D2 := fun x y M P => match x, y with
  | .int i, .int j => C i j ∧ P (.int (g i j)) M
  | _, _ => False
theorem sim_I0 {g : Int → Int → Int} : Sim2 K (rI0 fun i j => .int (g i j)) (dI0 fun i j => .int (g i j)) := by
  intro J H M x y v u P Q d rx ry h c
  unfold dI0 at h
  split at h
  · cases rx; cases ry
    exact ⟨_, _, rfl, rfl, c _ _ J H M h Ex.rfl' d (.int _)⟩
  · exact h.elim
theorem sim_B0 {g : Int → Int → Bool} : Sim2 K (rI0 fun i j => .bl (g i j)) (dI0 fun i j => .bl (g i j)) := by
  intro J H M x y v u P Q d rx ry h c
  unfold dI0 at h
  split at h
  · cases rx; cases ry
    exact ⟨_, _, rfl, rfl, c _ _ J H M h Ex.rfl' d (.bl _)⟩
  · exact h.elim
theorem sim_IC {C : Int → Int → Prop} {g : Int → Int → Int} : Sim2 K (rI C fun i j => .int (g i j)) (dIC C g) := by
  intro J H M x y v u P Q d rx ry h c
  unfold dIC at h
  split at h
  · cases rx; cases ry
    exact ⟨_, _, rfl, rfl, h.1, c _ _ J H M h.2 Ex.rfl' d (.int _)⟩
  · exact h.elim
/-- int * int, list * int -/
def rMulU : R2 := fun x y H Q => rI CMul (fun i j => .int (i * j)) x y H Q ∨ (rI CMulW (fun i j => .int (i * j)) x y H Q ∨ rRep x y H Q)
def dMul : D2 := fun x y M P => match x, y with
  | .int i, .int j => (CMul i j ∨ CMulW i j) ∧ P (.int (i * j)) M
  | x, .int k => ∃ a, LtOf M x a ∧ -(2 ^ 63) ≤ k ∧ k < 2 ^ 63 ∧ a.length * k.toNat ≤ sizeLine ∧ P (.lst (List.replicate k.toNat a).flatten) M
  | _, _ => False
theorem RVs.rep {rs : List R} {vs : List V} (h : RVs K J rs vs) : ∀ n : Nat, RVs K J (List.replicate n rs).flatten (List.replicate n vs).flatten
  | 0 => .nil
  | n + 1 => by
    rw [List.replicate_succ, List.replicate_succ, List.flatten_cons, List.flatten_cons]
    exact h.app (RVs.rep h n)
theorem op_mulU {X : Cx} : OpR X (binaryOp .Mult) rMulU := op_mul.or (op_mulW.or op_rep)
theorem sim_mul : Sim2 K rMulU dMul := by
  intro J H M x y v u P Q d rx ry h c
  unfold dMul at h
  split at h
  · cases rx; cases ry
    have q := c _ _ J H M h.2 Ex.rfl' d (.int _)
    rcases h.1 with h1 | h1
    · exact .inl ⟨_, _, rfl, rfl, h1, q⟩
    · exact .inr (.inl ⟨_, _, rfl, rfl, h1, q⟩)
  · cases ry
    obtain ⟨a, h1, h2, h3, h4, h5⟩ := h
    obtain ⟨p, vs, e, hp, r⟩ := h1.get d rx
    exact .inr (.inr ⟨_, _, _, e, rfl, hp, h2, h3, by rw [← r.len]; exact h4, newL d c h5 (r.rep _)⟩)
  · exact h.elim
def R.isNon : R → Bool
  | .non => true
  | _ => false
theorem isNon_rv {x : R} {v : V} (r : RV K J x v) : decide (v = .non) = x.isNon := by
  cases r <;> simp [R.isNon]
/-- scalars of one kind at once; else by data -/
def dEqB (f : Bool → Bool) : D2 := fun x y M P => match x, y with
  | .int i, .int j => P (.bl (f (decide (i = j)))) M
  | .str i, .str j => P (.bl (f (decide (i = j)))) M
  | .bl i, .bl j => P (.bl (f (decide (i = j)))) M
  | x, y => ∃ d e, PyOf M x d ∧ PyOf M y e ∧ SeqAt.shaped d = true ∧ SeqAt.shaped e = true ∧ P (.bl (f (PyData.eqv d e))) M
def rEqU (K : PySem.W.Frag) : R2 := fun x y H Q => rEq x y H Q ∨ rEqD K x y H Q
def rNeU (K : PySem.W.Frag) : R2 := fun x y H Q => rNe x y H Q ∨ rNeD K x y H Q
theorem op_eqU {X : Cx} (hu : X.A.units + 64 < cLine) : OpR X (compareOp .Eq) (rEqU X.K) := op_eq.or (op_eqD hu)
theorem op_neU {X : Cx} (hu : X.A.units + 64 < cLine) : OpR X (compareOp .NotEq) (rNeU X.K) := op_ne.or (op_neD hu)
theorem sim_eq : Sim2 K (rEqU K) (dEqB fun b => b) := by
  intro J H M x y v u P Q d rx ry h c
  unfold dEqB at h
  split at h
  · cases rx; cases ry
    refine .inl ⟨rfl, ?_⟩
    rw [show decide (V.int _ = V.int _) = _ from decide_eq_decide.mpr ⟨V.int.inj, congrArg V.int⟩]
    exact c _ _ J H M h Ex.rfl' d (.bl _)
  · cases rx; cases ry
    refine .inl ⟨rfl, ?_⟩
    rw [show decide (V.str _ = V.str _) = _ from decide_eq_decide.mpr ⟨V.str.inj, congrArg V.str⟩]
    exact c _ _ J H M h Ex.rfl' d (.bl _)
  · cases rx; cases ry
    refine .inl ⟨rfl, ?_⟩
    rw [show decide (V.bl _ = V.bl _) = _ from decide_eq_decide.mpr ⟨V.bl.inj, congrArg V.bl⟩]
    exact c _ _ J H M h Ex.rfl' d (.bl _)
  · obtain ⟨a, b, h1, h2, h3, h4, h5⟩ := h
    exact .inr ⟨a, b, h1.dp d rx, h2.dp d ry, h3, h4, c _ _ J H M h5 Ex.rfl' d (.bl _)⟩
theorem sim_ne : Sim2 K (rNeU K) (dEqB fun b => !b) := by
  intro J H M x y v u P Q d rx ry h c
  unfold dEqB at h
  split at h
  · cases rx; cases ry
    refine .inl ⟨rfl, ?_⟩
    rw [show decide (V.int _ = V.int _) = _ from decide_eq_decide.mpr ⟨V.int.inj, congrArg V.int⟩]
    exact c _ _ J H M h Ex.rfl' d (.bl _)
  · cases rx; cases ry
    refine .inl ⟨rfl, ?_⟩
    rw [show decide (V.str _ = V.str _) = _ from decide_eq_decide.mpr ⟨V.str.inj, congrArg V.str⟩]
    exact c _ _ J H M h Ex.rfl' d (.bl _)
  · cases rx; cases ry
    refine .inl ⟨rfl, ?_⟩
    rw [show decide (V.bl _ = V.bl _) = _ from decide_eq_decide.mpr ⟨V.bl.inj, congrArg V.bl⟩]
    exact c _ _ J H M h Ex.rfl' d (.bl _)
  · obtain ⟨a, b, h1, h2, h3, h4, h5⟩ := h
    exact .inr ⟨a, b, h1.dp d rx, h2.dp d ry, h3, h4, c _ _ J H M h5 Ex.rfl' d (.bl _)⟩
/-- is None, is of two truths -/
def dIs (f : Bool → Bool) : D2 := fun x y M P => match x, y with
  | x, .non => P (.bl (f x.isNon)) M
  | .bl a, .bl b => P (.bl (f (decide (a = b)))) M
  | _, _ => False
def rNotU : R2 := fun x y H Q => (y = .non ∧ Q (.bl (!decide (x = .non))) H) ∨ rNotB x y H Q
theorem op_notU {X : Cx} : OpR X (compareOp .IsNot) rNotU := op_notN.or op_notBl
theorem sim_isnot : Sim2 K rNotU (dIs fun b => !b) := by
  intro J H M x y v u P Q d rx ry h c
  unfold dIs at h
  split at h
  · cases ry
    refine .inl ⟨rfl, ?_⟩
    rw [isNon_rv rx]
    exact c _ _ J H M h Ex.rfl' d (.bl _)
  · cases rx; cases ry
    exact .inr ⟨_, _, rfl, rfl, c _ _ J H M h Ex.rfl' d (.bl _)⟩
  · exact h.elim
def rLtU : R2 := fun x y H Q => rI0 (fun i j => .bl (decide (i < j))) x y H Q ∨ ∃ i j, x = .str i ∧ y = .str j ∧ Q (.bl (decide (i.cps.toList < j.cps.toList))) H
theorem op_ltU {X : Cx} : OpR X (compareOp .Lt) rLtU := op_lt.or op_lt_str
def dLt : D2 := fun x y M P => match x, y with
  | .int i, .int j => P (.bl (decide (i < j))) M
  | .str i, .str j => P (.bl (decide (i.cps.toList < j.cps.toList))) M
  | _, _ => False
theorem sim_lt : Sim2 K rLtU dLt := by
  intro J H M x y v u P Q d rx ry h c
  unfold dLt at h
  split at h
  · cases rx; cases ry
    exact .inl ⟨_, _, rfl, rfl, c _ _ J H M h Ex.rfl' d (.bl _)⟩
  · cases rx; cases ry
    exact .inr ⟨_, _, rfl, rfl, c _ _ J H M h Ex.rfl' d (.bl _)⟩
  · exact h.elim
def R.v : R → V
  | .non => .non
  | .bl b => .bl b
  | .int i => .int i
  | .str x => .str x
  | _ => .ref 0
def flatR (r : R) : Bool := flatV r.v
theorem flat_rv {r : R} {v : V} (x : RV K J r v) (h : flatR r = true) : v = r.v := by
  cases x <;> first | rfl | cases h
theorem flats_rv : ∀ {rs : List R} {vs : List V}, RVs K J rs vs → rs.all flatR = true → vs = rs.map R.v ∧ vs.all flatV = true
  | _, _, .nil, _ => ⟨rfl, rfl⟩
  | r :: rs, v :: vs, .cons h hs, e => by
    rw [List.all_cons, Bool.and_eq_true] at e
    obtain ⟨e1, e2⟩ := flats_rv hs e.2
    have e3 := flat_rv h e.1
    rw [List.map_cons, ← e1, ← e3, List.all_cons, e2, e3]
    refine ⟨rfl, ?_⟩
    have := e.1
    unfold flatR at this
    rw [this]; rfl
def inR (x : R) (rs : List R) : Bool := inV x.v (rs.map R.v)
theorem atI_rv {rs : List R} {vs : List V} {i : Int} {r : R} (h : RVs K J rs vs) (e : atI rs i = some r) : ∃ v, atI vs i = some v ∧ RV K J r v := by
  unfold atI at e ⊢
  rw [← h.len]
  cases q : ixN rs.length i with
  | none => rw [q] at e; cases e
  | some j =>
    rw [q] at e
    exact h.get (by simpa using e)
def valR {κ : Type} [DecidableEq κ] (kvs : List (κ × R)) (k : κ) : Option R := (kvs.find? fun kv => decide (kv.1 = k)).map (·.2)
def putR {κ : Type} [DecidableEq κ] (kvs : List (κ × R)) (k : κ) (v : R) : List (κ × R) :=
  if (kvs.any fun kv => decide (kv.1 = k)) = true then kvs.map (fun kv => if kv.1 = k then (kv.1, v) else kv) else kvs ++ [(k, v)]
theorem KRV.val {κ : Type} [DecidableEq κ] {k : κ} : ∀ {kvs : List (κ × R)} {ws : List (κ × V)}, KRV K J kvs ws → match valR kvs k, valV ws k with
    | some r, some v => RV K J r v
    | none, none => True
    | _, _ => False
  | _, _, .nil => True.intro
  | _, _, .cons (a := p) (b := q) ⟨e, h⟩ t => by
    unfold valR valV
    rw [List.find?_cons, List.find?_cons, ← e]
    by_cases z : p.1 = k
    · rw [decide_eq_true z]; exact h
    · rw [decide_eq_false z]; exact KRV.val t
theorem KRV.val_some {κ : Type} [DecidableEq κ] {k : κ} {kvs : List (κ × R)} {ws : List (κ × V)} {r : R} (h : KRV K J kvs ws) (e : valR kvs k = some r) : ∃ v, valV ws k = some v ∧ RV K J r v := by
  have q := h.val (k := k)
  rw [e] at q
  cases z : valV ws k with
  | none => rw [z] at q; exact q.elim
  | some v => rw [z] at q; exact ⟨v, rfl, q⟩
theorem KRV.val_none {κ : Type} [DecidableEq κ] {k : κ} {kvs : List (κ × R)} {ws : List (κ × V)} (h : KRV K J kvs ws) (e : valR kvs k = none) : valV ws k = none := by
  have q := h.val (k := k)
  rw [e] at q
  cases z : valV ws k with
  | none => rfl
  | some v => rw [z] at q; exact q.elim
theorem KRV.isSome {κ : Type} [DecidableEq κ] {k : κ} {kvs : List (κ × R)} {ws : List (κ × V)} (h : KRV K J kvs ws) : (valV ws k).isSome = (valR kvs k).isSome := by
  cases e : valR kvs k with
  | none => rw [h.val_none e]; rfl
  | some r => obtain ⟨v, e2, _⟩ := h.val_some e; rw [e2]; rfl
theorem KRV.app {κ : Type} : ∀ {as bs : List (κ × R)} {cs ds : List (κ × V)}, KRV K J as cs → KRV K J bs ds → KRV K J (as ++ bs) (cs ++ ds)
  | _, _, _, _, .nil, h => h
  | _, _, _, _, .cons a t, h => .cons a (KRV.app t h)
theorem KRV.len {κ : Type} : ∀ {as : List (κ × R)} {cs : List (κ × V)}, KRV K J as cs → as.length = cs.length
  | _, _, .nil => rfl
  | _, _, .cons _ t => by rw [List.length_cons, List.length_cons, KRV.len t]
theorem KRV.put {κ : Type} [DecidableEq κ] {k : κ} {r : R} {v : V} {kvs : List (κ × R)} {ws : List (κ × V)} (h : KRV K J kvs ws) (x : RV K J r v) : KRV K J (putR kvs k r) (putK ws k v) := by
  have a : (kvs.any fun kv => decide (kv.1 = k)) = (ws.any fun kv => decide (kv.1 = k)) := by
    unfold KRV at h
    induction h with
    | nil => rfl
    | cons e _ ih => rw [List.any_cons, List.any_cons, ih, e.1]
  have m : KRV K J (kvs.map fun kv => if kv.1 = k then (kv.1, r) else kv) (ws.map fun kv => if kv.1 = k then (kv.1, v) else kv) := by
    unfold KRV at h ⊢
    clear a
    induction h with
    | nil => exact .nil
    | cons e _ ih =>
      rw [List.map_cons, List.map_cons]
      refine .cons ?_ ih
      rw [← e.1]
      split
      · exact ⟨by first | rfl | exact e.1, x⟩
      · exact ⟨by first | rfl | exact e.1, e.2⟩
  unfold putR putK
  rw [a]
  split
  · exact m
  · exact h.app (.cons ⟨rfl, x⟩ .nil)
end
end DL
set_option Elab.async false
set_option linter.all false
set_option maxRecDepth 100000
set_option maxHeartbeats 2000000
namespace DL
open PySem PySem.Spec L2
open PyProof.Rows hiding St
section
variable {K : PySem.W.Frag} {J : Jp} {H : Hp} {M : MH} {P : DP} {Q : VK}
def rInU (K : PySem.W.Frag) (neg : Bool) : R2 := fun x y H Q => (∃ (c : Nat) (z : Str), x = .str ⟨#[c]⟩ ∧ y = .str z ∧ Q (.bl (if neg then !decide (c ∈ z.cps.toList) else decide (c ∈ z.cps.toList))) H) ∨
  ((∃ i j, x = .str i ∧ y = .str j ∧ Q (.bl (if neg then !(!(Builtin.Str.occurrences j i 0 j.length 1).isEmpty) else !(Builtin.Str.occurrences j i 0 j.length 1).isEmpty)) H) ∨ rIn K neg x y H Q)
theorem op_inU {X : Cx} : OpR X (compareOp .In) (rInU X.K false) := op_in_sign.or (op_in_str.or op_in_seq)
theorem op_notInU {X : Cx} : OpR X (compareOp .NotIn) (rInU X.K true) := op_notIn_sign.or (op_notin_str.or op_notIn_seq)
def dIn (neg : Bool) : D2 := fun x y M P => match x, y with
  | .str i, .str j => (∃ c, i = ⟨#[c]⟩ ∧ P (.bl (if neg then !decide (c ∈ j.cps.toList) else decide (c ∈ j.cps.toList))) M) ∨
      P (.bl (if neg then !(!(Builtin.Str.occurrences j i 0 j.length 1).isEmpty) else !(Builtin.Str.occurrences j i 0 j.length 1).isEmpty)) M
  | x, .tup rs => flatR x = true ∧ rs.all flatR = true ∧ P (.bl (if neg then !inR x rs else inR x rs)) M
  | x, y => ∃ rs, LsOf M y rs ∧ flatR x = true ∧ rs.all flatR = true ∧ P (.bl (if neg then !inR x rs else inR x rs)) M
theorem flatV_of {x : R} {v : V} (r : RV K J x v) (h : flatR x = true) : flatV v = true := by rw [flat_rv r h]; exact h
theorem inV_of {x : R} {v : V} {rs : List R} {vs : List V} (r : RV K J x v) (h : flatR x = true) (hs : RVs K J rs vs) (h2 : rs.all flatR = true) : inV v vs = inR x rs := by
  rw [flat_rv r h, (flats_rv hs h2).1]; rfl
theorem sim_in {neg : Bool} : Sim2 K (rInU K neg) (dIn neg) := by
  intro J H M x y v u P Q d rx ry h c
  unfold dIn at h
  split at h
  · cases rx; cases ry
    rcases h with ⟨s, rfl, h⟩ | h
    · exact .inl ⟨_, _, rfl, rfl, c _ _ J H M h Ex.rfl' d (.bl _)⟩
    · exact .inr (.inl ⟨_, _, rfl, rfl, c _ _ J H M h Ex.rfl' d (.bl _)⟩)
  · cases ry with
    | tup h1 h2 =>
      refine .inr (.inr ⟨_, _, rfl, .inr (d.ex.sqT h1), flatV_of rx h.1, (flats_rv h2 h.2.1).2, ?_⟩)
      rw [inV_of rx h.1 h2 h.2.1]
      exact c _ _ J H M h.2.2 Ex.rfl' d (.bl _)
  · obtain ⟨rs, h1, h3, h4, h5⟩ := h
    obtain ⟨a, vs, e, l, r⟩ := h1.get d ry
    refine .inr (.inr ⟨_, _, e, .inl l.sq, flatV_of rx h3, (flats_rv r h4).2, ?_⟩)
    rw [inV_of rx h3 r h4]
    exact c _ _ J H M h5 Ex.rfl' d (.bl _)
def dIx : D2 := fun x y M P => match x, y with
  | .tup rs, .int i => ∃ r, atI rs i = some r ∧ P r M
  | .pt rs, .int i => ∃ r, atI rs i = some r ∧ P r M
  | .str z, .int i => z.length ≤ sizeLine ∧ ∃ c, atI z.cps.toList i = some c ∧ P (.str ⟨#[c]⟩) M
  | x, .int i => ∃ rs r, LsOf M x rs ∧ atI rs i = some r ∧ P r M
  | _, _ => False
theorem sim_ix : Sim2 K (rIx K) dIx := by
  intro J H M x y v u P Q d rx ry h c
  unfold dIx at h
  split at h
  · cases ry
    cases rx with
    | tup h1 h2 =>
      obtain ⟨r, e, h⟩ := h
      obtain ⟨w, e2, rw_⟩ := atI_rv h2 e
      exact .inr (.inl ⟨_, _, _, w, rfl, rfl, d.ex.sqT h1, e2, c _ _ J H M h Ex.rfl' d rw_⟩)
  · cases ry
    cases rx with
    | pt h0 _ h2 =>
      obtain ⟨r, e, h⟩ := h
      obtain ⟨w, e2, rw_⟩ := atI_rv h2 e
      exact .inr (.inl ⟨_, _, _, w, rfl, rfl, d.ex.sqT (RV.ptT h0), e2, c _ _ J H M h Ex.rfl' d rw_⟩)
  · cases rx; cases ry
    obtain ⟨h1, s, e, h⟩ := h
    exact .inr (.inr ⟨_, _, s, rfl, rfl, h1, e, c _ _ J H M h Ex.rfl' d (.str _)⟩)
  · cases ry
    obtain ⟨rs, r, h1, e, h⟩ := h
    obtain ⟨a, vs, e1, l, rr⟩ := h1.get d rx
    obtain ⟨w, e2, rw_⟩ := atI_rv rr e
    exact .inl ⟨_, _, _, w, e1, rfl, l.sq, e2, c _ _ J H M h Ex.rfl' d rw_⟩
  · exact h.elim
end
section
variable {X : Cx} {W : WW} {pos : Pos}
theorem de_ix {a b : Expr} {wa wb : WE} (ha : DE X W a wa) (hb : DE X W b wb) (hs : PlainIx b := by exact fun _ _ => rfl) : DE X W (.Subscript a b pos) (wOp dIx wa wb) := by
  obtain ⟨ta, pa, sa⟩ := ha
  obtain ⟨tb, pb, sb⟩ := hb
  exact ⟨_, pe_ix ix_seq pa pb hs, Sim.op sim_ix sa sb⟩
/-- one operand -/
def dNeg : R → MH → DP → Prop := fun x M P => match x with
  | .int i => P (.int (-i)) M
  | _ => False
def wUn (f : R → MH → DP → Prop) (wa : WE) : WE := fun g M P xw => wa g M (fun x M1 => f x M1 P) xw
theorem de_neg {a : Expr} {wa : WE} (ha : DE X W a wa) : DE X W (.UnaryOp .USub a pos) (wUn dNeg wa) := by
  obtain ⟨ta, pa, sa⟩ := ha
  refine ⟨_, pe_un un_neg pa, fun J H σ g M P xw Q d rg h c cx => ?_⟩
  refine sa J H σ g M _ xw _ d rg h (fun r v J1 H1 M1 p1 e1 d1 r1 => ?_) cx
  unfold dNeg at p1
  split at p1
  · cases r1
    exact ⟨_, rfl, c _ _ J1 H1 M1 p1 e1 d1 (.int _)⟩
  · exact p1.elim
def ofB (P : Bool → MH → Prop) : DP := fun r M => match r with
  | .bl b => P b M
  | _ => False
def wTest (w : WE) : WT := fun g M P xw => w g M (ofB P) xw
theorem sim_test {K : PySem.W.Frag} {W : WW} {te : TE} {w : WE} (s : Sim K W te w) : SimT K W (fun σ H Q => te σ H fun x H' => ∃ k, x = .bl k ∧ Q k H') (wTest w) := fun J H σ g M P xw Q d rg h c cx =>
  s J H σ g M _ xw _ d rg h (fun r v J1 H1 M1 p1 e1 d1 r1 => by
    unfold ofB at p1
    split at p1
    · cases r1
      exact ⟨_, rfl, c _ J1 H1 M1 p1 e1 d1⟩
    · exact p1.elim) cx
theorem dt_cmp {op : CmpOp} {r : R2} {f : D2} {a b : Expr} {wa wb : WE} (ho : OpR X (compareOp op) r) (s : Sim2 X.K r f) (ha : DE X W a wa) (hb : DE X W b wb) (hm : behindInMarks op b = false := by rfl) : DT X W (.Compare a [op] [b] pos) (wTest (wOp f wa wb)) := by
  obtain ⟨ta, pa, sa⟩ := ha
  obtain ⟨tb, pb, sb⟩ := hb
  exact ⟨_, pt_cmpR ho pa pb hm, sim_test (sa.op s sb)⟩
theorem dt_val {e : Expr} {w : WE} (h : DE X W e w) (he : ∀ whole, isTrue e X.env whole = (do let v ← whole; standAt e.pos; holding [v] (truthy v)) := by intro _; rfl) : DT X W e (wTest w) := by
  obtain ⟨te, pe, s⟩ := h
  exact ⟨_, pt_val pe he, sim_test s⟩
def wNot (w : WT) : WT := fun g M P xw => w g M (fun b M1 => P (!b) M1) xw
theorem dt_not {e : Expr} {w : WT} (h : DT X W e w) : DT X W (.UnaryOp .Not e pos) (wNot w) := by
  obtain ⟨te, pe, s⟩ := h
  exact ⟨_, pt_not pe, fun J H σ g M P xw Q d rg h c cx => s J H σ g M _ xw _ d rg h (fun b J1 H1 M1 p1 e1 d1 => c _ J1 H1 M1 p1 e1 d1) cx⟩
def wAnd (wa wb : WT) : WT := fun g M P xw => wa g M (fun b M1 => (b = true → wb g M1 P xw) ∧ (b = false → P false M1)) xw
def wOr (wa wb : WT) : WT := fun g M P xw => wa g M (fun b M1 => (b = true → P true M1) ∧ (b = false → wb g M1 P xw)) xw
theorem dw_and1 {a : Expr} {wa : WT} (h : DT X W a wa) : DW X W (.BoolOp .And [a] pos) wa := by
  obtain ⟨te, pe, s⟩ := h
  exact ⟨_, pw_and1 pe, s⟩
theorem dw_or1 {a : Expr} {wa : WT} (h : DT X W a wa) : DW X W (.BoolOp .Or [a] pos) wa := by
  obtain ⟨te, pe, s⟩ := h
  exact ⟨_, pw_or1 pe, s⟩
theorem dw_and {a b : Expr} {rest : List Expr} {wa wb : WT} (h : DT X W a wa) (h2 : DW X W (.BoolOp .And (b :: rest) pos) wb) : DW X W (.BoolOp .And (a :: b :: rest) pos) (wAnd wa wb) := by
  obtain ⟨ta, pa, sa⟩ := h
  obtain ⟨tb, pb, sb⟩ := h2
  refine ⟨_, pw_and pa pb, fun J H σ g M P xw Q d rg h c cx => sa J H σ g M _ xw _ d rg h (fun b J1 H1 M1 p1 e1 d1 => ?_) cx⟩
  cases b with
  | true => exact sb J1 H1 σ g M1 P xw Q d1 (rg.mono e1) (p1.1 rfl) (c.mono e1) (cx.mono e1)
  | false => exact c _ J1 H1 M1 (p1.2 rfl) e1 d1
theorem dw_or {a b : Expr} {rest : List Expr} {wa wb : WT} (h : DT X W a wa) (h2 : DW X W (.BoolOp .Or (b :: rest) pos) wb) : DW X W (.BoolOp .Or (a :: b :: rest) pos) (wOr wa wb) := by
  obtain ⟨ta, pa, sa⟩ := h
  obtain ⟨tb, pb, sb⟩ := h2
  refine ⟨_, pw_or pa pb, fun J H σ g M P xw Q d rg h c cx => sa J H σ g M _ xw _ d rg h (fun b J1 H1 M1 p1 e1 d1 => ?_) cx⟩
  cases b with
  | true => exact c _ J1 H1 M1 (p1.1 rfl) e1 d1
  | false => exact sb J1 H1 σ g M1 P xw Q d1 (rg.mono e1) (p1.2 rfl) (c.mono e1) (cx.mono e1)
theorem DW.dt {e : Expr} {w : WT} (h : DW X W e w) : DT X W e w := by
  obtain ⟨te, pe, s⟩ := h
  exact ⟨te, pe.pt, s⟩
/-- a and b, a or b, not a, as values: all truths but the last -/
def wAndV (wa wb : WE) : WE := fun g M P xw => wa g M (ofB fun b M1 => (b = true → wb g M1 P xw) ∧ (b = false → P (.bl false) M1)) xw
theorem de_one {op} {a : Expr} {wa : WE} (h : DE X W a wa) : DE X W (.BoolOp op [a] pos) wa := by
  obtain ⟨te, pe, s⟩ := h
  exact ⟨_, pe_one pe, s⟩
theorem de_and {a b : Expr} {rest : List Expr} {wa wb : WE} (h : DE X W a wa) (h2 : DE X W (.BoolOp .And (b :: rest) pos) wb) : DE X W (.BoolOp .And (a :: b :: rest) pos) (wAndV wa wb) := by
  obtain ⟨ta, pa, sa⟩ := h
  obtain ⟨tb, pb, sb⟩ := h2
  refine ⟨_, pe_and pa pb, fun J H σ g M P xw Q d rg h c cx => sa J H σ g M _ xw _ d rg h (fun r v J1 H1 M1 p1 e1 d1 r1 => ?_) cx⟩
  unfold ofB at p1
  split at p1
  · rename_i b
    cases r1
    cases b with
    | true => exact ⟨true, rfl, sb J1 H1 σ g M1 P xw Q d1 (rg.mono e1) (p1.1 rfl) (c.mono e1) (cx.mono e1)⟩
    | false => exact ⟨false, rfl, c (.bl false) _ J1 H1 M1 (p1.2 rfl) e1 d1 (.bl _)⟩
  · exact p1.elim
def wNotV (wa : WE) : WE := fun g M P xw => wa g M (ofB fun b M1 => P (.bl (!b)) M1) xw
theorem de_not {a : Expr} {wa : WE} (h : DE X W a wa) : DE X W (.UnaryOp .Not a pos) (wNotV wa) := by
  obtain ⟨ta, pa, sa⟩ := h
  refine ⟨_, pe_not pa, fun J H σ g M P xw Q d rg h c cx => sa J H σ g M _ xw _ d rg h (fun r v J1 H1 M1 p1 e1 d1 r1 => ?_) cx⟩
  unfold ofB at p1
  split at p1
  · rename_i b
    cases r1
    exact ⟨b, rfl, c (.bl _) _ J1 H1 M1 p1 e1 d1 (.bl _)⟩
  · exact p1.elim
/-- a < b < c -/
def wChain (f f' : D2) (wa wb wc : WE) : WE := fun g M P xw => wa g M (fun x M1 => wb g M1 (fun y M2 => f x y M2 (ofB fun k M3 => (k = true → wc g M3 (fun z M4 => f' y z M4 P) xw) ∧ (k = false → P (.bl false) M3))) xw) xw
theorem de_chain {op op' : CmpOp} {r r' : R2} {f f' : D2} {a b e : Expr} {wa wb wc : WE} (ho : OpR X (compareOp op) r) (ho' : OpR X (compareOp op') r') (s : Sim2 X.K r f) (s' : Sim2 X.K r' f') (ha : DE X W a wa) (hb : DE X W b wb) (hc : DE X W e wc)
    (hm : lastMarks [op, op'] [b, e] = false := by with_unfolding_all rfl) : DE X W (.Compare a [op, op'] [b, e] pos) (wChain f f' wa wb wc) := by
  obtain ⟨ta, pa, sa⟩ := ha
  obtain ⟨tb, pb, sb⟩ := hb
  obtain ⟨tc, pc, sc⟩ := hc
  refine ⟨_, pe_chain ho ho' pa pb pc hm, fun J H σ g M P xw Q d rg h c cx => sa J H σ g M _ xw _ d rg h (fun x v J1 H1 M1 p1 e1 d1 r1 => ?_) cx⟩
  refine sb J1 H1 σ g M1 _ xw _ d1 (rg.mono e1) p1 (fun y u J2 H2 M2 p2 e2 d2 r2 => ?_) (cx.mono e1)
  refine s J2 H2 M2 x y v u _ _ d2 (r1.mono e2) r2 p2 fun k kv J3 H3 M3 p3 e3 d3 r3 => ?_
  unfold ofB at p3
  split at p3
  · rename_i b
    cases r3
    refine ⟨b, rfl, ?_⟩
    cases b with
    | true =>
      rw [if_pos rfl]
      refine sc J3 H3 σ g M3 _ xw _ d3 (((rg.mono e1).mono e2).mono e3) (p3.1 rfl) (fun z w J4 H4 M4 p4 e4 d4 r4 => ?_) (((cx.mono e1).mono e2).mono e3)
      exact s' J4 H4 M4 y z u w P Q d4 ((r2.mono e3).mono e4) r4 p4 ((((c.mono e1).mono e2).mono e3).mono e4)
    | false =>
      rw [if_neg Bool.false_ne_true]
      exact (((c.mono e1).mono e2)) (.bl false) _ J3 H3 M3 (p3.2 rfl) e3 d3 (.bl _)
  · exact p3.elim
def wIfE (wt : WT) (wa wb : WE) : WE := fun g M P xw => wt g M (fun b M1 => (b = true → wa g M1 P xw) ∧ (b = false → wb g M1 P xw)) xw
theorem de_if {t a b : Expr} {wt : WT} {wa wb : WE} (ht : DT X W t wt) (ha : DE X W a wa) (hb : DE X W b wb) : DE X W (.IfExp t a b pos) (wIfE wt wa wb) := by
  obtain ⟨tt, pt, st⟩ := ht
  obtain ⟨ta, pa, sa⟩ := ha
  obtain ⟨tb, pb, sb⟩ := hb
  refine ⟨_, pe_ifExp pt pa pb, fun J H σ g M P xw Q d rg h c cx => st J H σ g M _ xw _ d rg h (fun b J1 H1 M1 p1 e1 d1 => ?_) cx⟩
  cases b with
  | true => exact sa J1 H1 σ g M1 P xw Q d1 (rg.mono e1) (p1.1 rfl) (c.mono e1) (cx.mono e1)
  | false => exact sb J1 H1 σ g M1 P xw Q d1 (rg.mono e1) (p1.2 rfl) (c.mono e1) (cx.mono e1)
def wNil : WA := fun _ M P _ => P [] M
def wCons (wa : WE) (wr : WA) : WA := fun g M P xw => wa g M (fun r M1 => wr g M1 (fun rs M2 => P (r :: rs) M2) xw) xw
theorem da_nil : DA X W [] wNil := ⟨_, pa_nil, fun J H _ _ M _ _ _ d _ h c _ => c [] [] J H M h rfl Ex.rfl' d .nil⟩
theorem da_cons {e : Expr} {es : List Expr} {wa : WE} {wr : WA} (ha : DE X W e wa) (hr : DA X W es wr) (hs : starEach (e :: es) X.env = (false, eval e X.env) :: starEach es X.env := by rfl) : DA X W (e :: es) (wCons wa wr) := by
  obtain ⟨ta, pa, sa⟩ := ha
  obtain ⟨tr, pr, sr⟩ := hr
  refine ⟨_, pa_cons pa pr hs, fun J H σ g M P xw Q d rg h c cx => sa J H σ g M _ xw _ d rg h (fun r v J1 H1 M1 p1 e1 d1 r1 => ?_) cx⟩
  exact sr J1 H1 σ g M1 _ xw _ d1 (rg.mono e1) p1 (fun rs vs J2 H2 M2 p2 l2 e2 d2 r2 => c _ _ J2 H2 M2 p2 (by rw [List.length_cons, l2]; rfl) (e1.trans e2) d2 (.cons (r1.mono e2) r2)) (cx.mono e1)
def wTup (wa : WA) : WE := fun g M P xw => wa g M (fun rs M1 => P (.tup rs) M1) xw
theorem de_tup {es : List Expr} {x1} {wa : WA} (h : DA X W es wa) (hl : Nat.ble es.length 1000 = true := by rfl) : DE X W (.Tuple es x1 pos) (wTup wa) := by
  obtain ⟨ta, pa, sa⟩ := h
  exact ⟨_, pe_tup pa, fun J H σ g M P xw Q d rg h c cx => sa J H σ g M _ xw _ d rg h (fun rs vs J1 H1 M1 p1 l1 e1 d1 r1 => ⟨by rw [← r1.len, l1]; exact Nat.le_trans (Nat.le_of_ble_eq_true hl) (by decide), newT d1 (c.mono e1) p1 r1⟩) cx⟩
/-- a list that stands -/
def wLst (wa : WA) : WE := fun g M P xw => wa g M (fun rs M1 => P (.lst rs) M1) xw
theorem de_lst {es : List Expr} {wa : WA} (h : DA X W es wa) (hl : Nat.ble es.length 1000 = true := by rfl) : DE X W (.List es pos) (wLst wa) := by
  obtain ⟨ta, pa, sa⟩ := h
  exact ⟨_, pe_lst pa, fun J H σ g M P xw Q d rg h c cx => sa J H σ g M _ xw _ d rg h (fun rs vs J1 H1 M1 p1 l1 e1 d1 r1 => ⟨by rw [← r1.len, l1]; exact Nat.le_trans (Nat.le_of_ble_eq_true hl) (by decide), newL d1 (c.mono e1) p1 r1⟩) cx⟩
/-- a list that will change -/
def wLstO (wa : WA) : WE := fun g M P xw => wa g M (fun rs M1 => ∀ a, M1 a = none → P (.o a) (updM M1 a (.lst rs))) xw
theorem de_lstO {es : List Expr} {wa : WA} (h : DA X W es wa) (hl : Nat.ble es.length 1000 = true := by rfl) : DE X W (.List es pos) (wLstO wa) := by
  obtain ⟨ta, pa, sa⟩ := h
  exact ⟨_, pe_lst pa, fun J H σ g M P xw Q d rg h c cx => sa J H σ g M _ xw _ d rg h (fun rs vs J1 H1 M1 p1 l1 e1 d1 r1 => ⟨by rw [← r1.len, l1]; exact Nat.le_trans (Nat.le_of_ble_eq_true hl) (by decide), newO d1 (c.mono e1) p1 r1⟩) cx⟩
end
end DL
set_option Elab.async false
set_option linter.all false
set_option maxRecDepth 100000
set_option maxHeartbeats 2000000
namespace DL
open PySem PySem.Spec L2
open PyProof.Rows hiding St
structure FnG (P : Program) (w : World) (K : PySem.W.Frag) (mg : Str → Option Value) (base : Heap) (k : Nat) (f : Addr) (fd : FuncData) (ps : List Str) (sp : Sp) : Prop where
  len : ∀ vs H Q E, sp vs H Q E → vs.length = ps.length
  run : ∀ (A : Around) (outer : List Env) (s : Shared) (H : Hp) (args : Args) (us : List Value) (vs : List V) (Q : VK) (E : XK), Room k A → A.guards = some [] → Env0 P w K mg base A outer s H →
    BindsTo s fd args (ps.zip us) → Vals vs us → sp vs H Q E → codeAny (model P w) A (.call (.ref f) args) (CR (L2.CX P w) outer P w H s Q E) s
section
variable {P : Program} {w : World} {K : PySem.W.Frag} {mg : Str → Option Value} {base : Heap} {k : Nat} {f : Addr} {fd : FuncData} {N ps : List Str} {sp : Sp} {x qual : Str} {params : Arguments} {body : List Stmt} {scope : Scope} {dvs : List V} {kws : List (Str × V)}
/-- a def, by its body -/
theorem fng_of (F : FunD K x qual params body scope dvs kws f fd) (S : FnScope N ps scope) (len : ∀ vs H Q E, sp vs H Q E → vs.length = ps.length)
    (hb : ∀ (cdv : Value) (A : Around) (outer : List Env) (s : Shared) (H : Hp) (vs : List V) (Q : VK) (E : XK), Room k (A.deeper (envOfC qual scope s.heap.objs.size f cdv)) → A.guards = some [] → sp vs H Q E →
      ∃ t, PSs (cxOf (L2.CX P w) P w K mg base N qual scope f cdv A outer s H E) body t ∧ t { nx := fun _ H' => Q .non H', rt := Q } (start N vs) H) : FnG P w K mg base (k + 1) f fd ps sp := by
  obtain ⟨oc, od, dV, kV, doc, pm, an, cdv, ct, osl, rfl, lk, hcd, _, _⟩ := F.ex
  constructor
  · exact len
  intro A outer s H args us vs Q E room gd e0 binds rv hsp
  have lenv := len _ _ _ _ hsp
  have kin : K.In s.heap := e0.mod.kin.keeps fun b o z => (e0.bs b o z).1
  have nolim : s.heap.NoLimit := e0.mod.nolimit.keeps fun b o z => (e0.bs b o z).1
  obtain ⟨t, ht, hq⟩ := hb cdv A outer s H vs Q E (room.deeper _) gd hsp
  have kinds : ∀ y ∈ ps.zip us, scope.names.lookup y.1 = some .local ∨ (scope.names.lookup y.1 = some .cell ∧ ((cellsFrom (s.heap.objs.size + 1) scope.names []).lookup y.1).isSome = true) := by
    rintro ⟨n, v⟩ hy
    refine (S.par n (List.of_mem_zip hy).1).imp id fun q => ⟨q, PySem.W.cellsFrom_some _ _ _ (.inl q)⟩
  refine codeAny_call_function room.depth (kin _ _ lk) rfl S.co S.gen rfl (PySem.W.codeRec_of kin hcd) (binds _ _ _ _ (wpAny_newFunctionEnv_cells S.kind kinds ?_))
  rintro env rfl s1 x1
  refine ⟨nolim.keeps x1.toInCall.keep, codeAny_func (wpAny_mono (ht.run [] s1 (start N vs) H _ (inv_start S room.hd e0 lenv rv x1) hq) ?_ fun _ _ z => z)⟩
  intro fl s' hs
  cases fl with
  | ret u =>
    obtain ⟨v, σ', H', I', r', q'⟩ := hs
    exact ⟨v, H', I'.os, I'.bare, I'.base, I'.hok, r', q'⟩
  | next =>
    obtain ⟨σ', H', I', q'⟩ := hs
    exact ⟨V.non, H', I'.os, I'.bare, I'.base, I'.hok, rfl, q'⟩
  | brk => obtain ⟨_, _, _, q'⟩ := hs; exact q'.elim
  | cont => obtain ⟨_, _, _, q'⟩ := hs; exact q'.elim
theorem FnG.mono {j : Nat} (F : FnG P w K mg base j f fd ps sp) (h : j ≤ k) : FnG P w K mg base k f fd ps sp := ⟨F.len, fun A outer s H args us vs Q E r => F.run A outer s H args us vs Q E (r.mono h)⟩
end
/-- a promise over the data layer -/
abbrev DSp := List R → MH → DP → DX → Prop
def enc (K : PySem.W.Frag) (n : Nat) (dsp : DSp) : Sp := fun vs H Q E => vs.length = n ∧ ∃ J M rs P xw, DSt K J H M ∧ RVs K J rs vs ∧ dsp rs M P xw ∧ Cont K J P Q ∧ ContX K J xw E
abbrev DFn (P : Program) (w : World) (K : PySem.W.Frag) (mg : Str → Option Value) (base : Heap) (k : Nat) (f : Addr) (fd : FuncData) (ps : List Str) (dsp : DSp) : Prop := FnG P w K mg base k f fd ps (enc K ps.length dsp)
theorem DFn.imp {P : Program} {w : World} {K : PySem.W.Frag} {mg : Str → Option Value} {base : Heap} {k : Nat} {f : Addr} {fd : FuncData} {ps : List Str} {dsp dsp' : DSp} (F : DFn P w K mg base k f fd ps dsp)
    (h : ∀ rs M Q xw, dsp' rs M Q xw → dsp rs M Q xw) : DFn P w K mg base k f fd ps dsp' :=
  ⟨fun _ _ _ _ q => q.1, fun A outer s H args us vs Q E r g e b v ⟨l, J, M, rs, Pp, xw, d, rv, q, c, cx⟩ => F.run A outer s H args us vs Q E r g e b v ⟨l, J, M, rs, Pp, xw, d, rv, h _ _ _ _ q, c, cx⟩⟩
structure RoomG (k : Nat) (A : Around) : Prop where
  r : Room k A
  g : A.guards = some []
theorem RoomG.mono {j k : Nat} {A : Around} (r : RoomG k A) (h : j ≤ k) : RoomG j A := ⟨r.r.mono h, r.g⟩
theorem RoomG.hu {k : Nat} {A : Around} (r : RoomG k A) : A.units + 64 < cLine := r.r.units
structure DEnds where
  nx : G → MH → Prop
  rt : DP
  xc : Value → Option (List (Str × R)) → G → MH → Prop := fun _ _ _ _ => False
  bk : G → MH → Prop := fun _ _ => False
  ct : G → MH → Prop := fun _ _ => False
def DEnds.wn (D : DEnds) (f : G → MH → Prop) : DEnds := ⟨f, D.rt, D.xc, D.bk, D.ct⟩
def DEnds.wl (D : DEnds) (f : G → MH → Prop) : DEnds := ⟨f, D.rt, D.xc, D.nx, f⟩
abbrev WS := DEnds → G → MH → Prop
def ContG (K : PySem.W.Frag) (J : Jp) (P : G → MH → Prop) (Q : L2.St → Hp → Prop) : Prop := ∀ g σ J' H' M', P g M' → Ex J J' → DSt K J' H' M' → RG K J' g σ → Q σ H'
def ContXG (K : PySem.W.Frag) (J : Jp) (P : Value → Option (List (Str × R)) → G → MH → Prop) (W : WW) : Prop := ∀ cls fs d g σ J' H' M', P cls fs g M' → Ex J J' → DSt K J' H' M' → RG K J' g σ → XD K J' H' d fs → W cls d σ H'
structure Conts (K : PySem.W.Frag) (J : Jp) (D : DEnds) (W : WW) (E : Ends) : Prop where
  nx : ContG K J D.nx E.nx
  rt : Cont K J D.rt E.rt
  bk : ContG K J D.bk E.bk
  ct : ContG K J D.ct E.ct
  xc : ContXG K J D.xc W
section
variable {K : PySem.W.Frag} {J J1 : Jp} {H : Hp} {W : WW}
theorem ContG.mono {P : G → MH → Prop} {Q : L2.St → Hp → Prop} (h : ContG K J P Q) (e : Ex J J1) : ContG K J1 P Q := fun g σ J' H' M' p e' => h g σ J' H' M' p (e.trans e')
theorem ContXG.mono {P : Value → Option (List (Str × R)) → G → MH → Prop} (h : ContXG K J P W) (e : Ex J J1) : ContXG K J1 P W := fun c f d g σ J' H' M' p e' => h c f d g σ J' H' M' p (e.trans e')
theorem Conts.mono {D : DEnds} {E : Ends} (c : Conts K J D W E) (e : Ex J J1) : Conts K J1 D W E := ⟨c.nx.mono e, c.rt.mono e, c.bk.mono e, c.ct.mono e, c.xc.mono e⟩
theorem Conts.x {D : DEnds} {E : Ends} {g : G} {σ : L2.St} (c : Conts K J D W E) (rg : RG K J g σ) : ContX K J (fun cls fs M => D.xc cls fs g M) (fun c d H => W c d σ H) := fun cls fs d J' H' M' p e dd x =>
  c.xc cls fs d g σ J' H' M' p e dd (rg.mono e) x
end
def SimS (K : PySem.W.Frag) (W : WW) (ts : TS) (w : WS) : Prop := ∀ (J : Jp) (H : Hp) (σ : L2.St) (g : G) (M : MH) (D : DEnds) (E : Ends), DSt K J H M → RG K J g σ → w D g M → Conts K J D W E → ts E σ H
structure DS (X : Cx) (W : WW) (st : Stmt) (w : WS) : Prop where
  ex : ∃ ts, PS X st ts ∧ SimS X.K W ts w
structure DSs (X : Cx) (W : WW) (st : List Stmt) (w : WS) : Prop where
  ex : ∃ ts, PSs X st ts ∧ SimS X.K W ts w
/-- an assignment's target -/
abbrev WG := R → G → MH → (G → MH → Prop) → Prop
def SimG (K : PySem.W.Frag) (tg : TG) (w : WG) : Prop := ∀ (J : Jp) (H : Hp) (σ : L2.St) (g : G) (M : MH) (r : R) (v : V) (P : G → MH → Prop) (Q : L2.St → Hp → Prop), DSt K J H M → RG K J g σ → RV K J r v → w r g M P → ContG K J P Q → tg v σ H Q
structure DG (X : Cx) (tg : Expr) (w : WG) : Prop where
  ex : ∃ t, PG X tg t ∧ SimG X.K t w
section
variable {X : Cx} {W : WW} {pos : Pos}
def sNext : WS := fun D g M => D.nx g M
def sSeq (a b : WS) : WS := fun D g M => a (D.wn (b D)) g M
theorem dss_nil : DSs X W [] sNext := ⟨_, pss_nil, fun J H σ g M D E d rg h c => c.nx g σ J H M h Ex.rfl' d rg⟩
theorem dss_cons {st : Stmt} {rest : List Stmt} {a b : WS} (h1 : DS X W st a) (h2 : DSs X W rest b) : DSs X W (st :: rest) (sSeq a b) := by
  obtain ⟨t, p, s⟩ := h1
  obtain ⟨u, q, s2⟩ := h2
  refine ⟨_, pss_cons p q, fun J H σ g M D E d rg h c => s J H σ g M (D.wn (b D)) { E with nx := u E } d rg h ⟨?_, c.rt, c.bk, c.ct, c.xc⟩⟩
  exact fun g' σ' J' H' M' p e d' rg' => s2 J' H' σ' g' M' D E d' rg' p (c.mono e)
def sRet (w : WE) : WS := fun D g M => w g M D.rt (fun c f M' => D.xc c f g M')
theorem ds_ret {e : Expr} {w : WE} (h : DE X W e w) : DS X W (.Return (some e) pos) (sRet w) := by
  obtain ⟨te, pe, s⟩ := h
  exact ⟨_, ps_ret pe, fun J H σ g M D E d rg h c => s J H σ g M _ _ _ d rg h c.rt (c.x rg)⟩
def sIf (wt : WT) (a b : WS) : WS := fun D g M => wt g M (fun k M1 => (k = true → a D g M1) ∧ (k = false → b D g M1)) (fun c f M' => D.xc c f g M')
theorem ds_if {t : Expr} {as bs : List Stmt} {wt : WT} {a b : WS} (ht : DT X W t wt) (ha : DSs X W as a) (hb : DSs X W bs b) : DS X W (.If t as bs pos) (sIf wt a b) := by
  obtain ⟨tt, pt, st⟩ := ht
  obtain ⟨ta, pa, sa⟩ := ha
  obtain ⟨tb, pb, sb⟩ := hb
  refine ⟨_, ps_if pt pa pb, fun J H σ g M D E d rg h c => st J H σ g M _ _ _ d rg h (fun k J1 H1 M1 p1 e1 d1 => ?_) (c.x rg)⟩
  cases k with
  | true => exact sa J1 H1 σ g M1 D E d1 (rg.mono e1) (p1.1 rfl) (c.mono e1)
  | false => exact sb J1 H1 σ g M1 D E d1 (rg.mono e1) (p1.2 rfl) (c.mono e1)
def gSet (i : Nat) : WG := fun r g M P => P (g.set i (some r)) M
theorem dg_name (i : Nat) {x : Str} (hN : X.N.Nodup) (hi : X.N[i]? = some x := by rfl) (hx : Loc X.env.scope x := by first | exact Or.inl rfl | exact Or.inr rfl) (hf : X.fn x = true ∨ X.env.scope.names.lookup x = some .local := by first | exact .inl rfl | exact .inr rfl | assumption) : DG X (.Name x pos) (gSet i) :=
  ⟨_, pg_name hN hi hx hf, fun J H σ g M r v P Q d rg rv h c => c _ _ J H M h Ex.rfl' d (rg.set i rv)⟩
/-- a tuple of names: what they are given -/
abbrev WGs := List R → G → MH → (G → MH → Prop) → Prop
def SimGs (K : PySem.W.Frag) (tg : TGs) (w : WGs) : Prop := ∀ (J : Jp) (H : Hp) (σ : L2.St) (g : G) (M : MH) (rs : List R) (vs : List V) (P : G → MH → Prop) (Q : L2.St → Hp → Prop), DSt K J H M → RG K J g σ → RVs K J rs vs → w rs g M P → ContG K J P Q → tg vs σ H Q
structure DGs (X : Cx) (tg : List Expr) (w : WGs) : Prop where
  ex : ∃ t, PGs X tg t ∧ SimGs X.K t w
def gsNil : WGs := fun rs g M P => match rs with
  | [] => P g M
  | _ => False
def gsCons (a : WG) (b : WGs) : WGs := fun rs g M P => match rs with
  | r :: rs' => a r g M (fun g' M' => b rs' g' M' P)
  | _ => False
theorem dgs_nil : DGs X [] gsNil := ⟨_, pgs_nil, fun J H σ g M rs vs P Q d rg rv h c => by
  unfold gsNil at h
  split at h
  · cases rv; exact ⟨rfl, c _ _ J H M h Ex.rfl' d rg⟩
  · exact h.elim⟩
theorem dgs_cons {e : Expr} {es : List Expr} {a : WG} {b : WGs} (h1 : DG X e a) (h2 : DGs X es b) (hs : (assignEach (e :: es) X.env).map (·.2) = assign e X.env :: (assignEach es X.env).map (·.2) := by rfl) : DGs X (e :: es) (gsCons a b) := by
  obtain ⟨t, p, s⟩ := h1
  obtain ⟨u, q, s2⟩ := h2
  refine ⟨_, pgs_cons p q hs, fun J H σ g M rs vs P Q d rg rv h c => ?_⟩
  unfold gsCons at h
  split at h
  · cases rv with
    | cons r1 r2 => exact ⟨_, _, rfl, s J H σ g M _ _ _ _ d rg r1 h fun g' σ' J' H' M' p' e' d' rg' => s2 J' H' σ' g' M' _ _ _ _ d' rg' (r2.mono e') p' (c.mono e')⟩
  · exact h.elim
def gTupW (n : Nat) (w : WGs) : WG := fun r g M P => match r with
  | .tup rs => rs.length = n ∧ w rs g M P
  | _ => False
theorem dg_tup {es : List Expr} {kk : Nat} {w : WGs} {n : Nat} (hc : X.calm = true) (h : DGs X es w) (hn : (assignEach es X.env).length = n := by rfl) (hst : (assignEach es X.env).findIdx? (·.1) = none := by rfl) : DG X (.Tuple es kk pos) (gTupW n w) := by
  obtain ⟨t, p, s⟩ := h
  refine ⟨_, pg_tup hc p hn hst, fun J H σ g M r v P Q d rg rv h c => ?_⟩
  unfold gTupW at h
  split at h
  · cases rv with
    | tup h1 h2 => exact ⟨_, _, rfl, d.ex.sqT h1, by rw [← h2.len]; exact h.1, s J H σ g M _ _ _ _ d rg h2 h.2 c⟩
  · exact h.elim
def sAsg (w : WE) (t : WG) : WS := fun D g M => w g M (fun r M1 => t r g M1 D.nx) (fun c f M' => D.xc c f g M')
theorem ds_asg {tg e : Expr} {w : WE} {t : WG} (he : DE X W e w) (hg : DG X tg t) (hs : swapsWithSole [tg] e pos.line X.env = pure false := by rfl) (hw : swappedStores [tg] e X.env = pure none := by rfl)
    (h1 : (assignEach [tg] X.env).map (·.2) = [assign tg X.env] := by rfl) : DS X W (.Assign [tg] e pos) (sAsg w t) := by
  obtain ⟨te, pe, s⟩ := he
  obtain ⟨tt, pt, st⟩ := hg
  exact ⟨_, ps_asg pe pt hs hw h1, fun J H σ g M D E d rg h c => s J H σ g M _ _ _ d rg h (fun r v J1 H1 M1 p1 e1 d1 r1 => st J1 H1 σ g M1 r v _ _ d1 (rg.mono e1) r1 p1 (c.nx.mono e1)) (c.x rg)⟩
theorem ds_set (i : Nat) {x : Str} {e : Expr} {w : WE} {pos' : Pos} (hN : X.N.Nodup) (he : DE X W e w) (hi : X.N[i]? = some x := by rfl) (hx : Loc X.env.scope x := by first | exact Or.inl rfl | exact Or.inr rfl) (hs : swapsWith e (some (.Name x pos')) pos.line X.env = pure false := by rfl)
    (hf : X.fn x = true ∨ X.env.scope.names.lookup x = some .local := by first | exact .inl rfl | exact .inr rfl | assumption) : DS X W (.Assign [.Name x pos'] e pos) (sAsg w (gSet i)) := by
  obtain ⟨te, pe, s⟩ := he
  exact ⟨_, ps_set hN hi hx pe hs hf, fun J H σ g M D E d rg h c => s J H σ g M _ _ _ d rg h (fun r v J1 H1 M1 p1 e1 d1 r1 => c.nx _ _ J1 H1 M1 p1 e1 d1 ((rg.mono e1).set i r1)) (c.x rg)⟩
/-- a, b = e1, e2 -/
def sPar (i j : Nat) (wa : WA) : WS := fun D g M => wa g M (fun rs M1 => match rs with
  | [r, r'] => D.nx ((g.set i (some r)).set j (some r')) M1
  | _ => False) (fun c f M' => D.xc c f g M')
def sExpr (w : WE) : WS := fun D g M => w g M (fun _ M1 => D.nx g M1) (fun c f M' => D.xc c f g M')
theorem ds_expr {e : Expr} {w : WE} (he : DE X W e w) (hs : swapsWith e none pos.line X.env = pure false := by rfl) : DS X W (.Expr e pos) (sExpr w) := by
  obtain ⟨te, pe, s⟩ := he
  exact ⟨_, ps_expr pe hs, fun J H σ g M D E d rg h c => s J H σ g M _ _ _ d rg h (fun r v J1 H1 M1 p1 e1 d1 r1 => c.nx _ _ J1 H1 M1 p1 e1 d1 (rg.mono e1)) (c.x rg)⟩
def wCall (dsp : DSp) (wa : WA) : WE := fun g M P xw => wa g M (fun rs M1 => dsp rs M1 P xw) xw
theorem run_dfn {k : Nat} {f : Addr} {fd : FuncData} {ps : List Str} {dsp : DSp} (F : DFn X.prog X.w X.K X.mg X.base k f fd ps dsp) (hr : RoomG k X.A) (hb : Binds X.K fd ps []) (tk : Takes X W)
    {pins : List (Addr × Obj)} {σ : L2.St} {J : Jp} {H : Hp} {s : Shared} {Q : VK} {us : List Value} {vs : List V} {rs : List R} {M : MH} {P : DP} {xw : DX} (I : Inv X pins σ H s) (r : Vals vs us) (d : DSt X.K J H M) (rv : RVs X.K J rs vs)
    (hl : rs.length = ps.length) (h : dsp rs M P xw) (c : Cont X.K J P Q) (cx : ContX X.K J xw fun c d H => W c d σ H) : wpAny (model X.prog X.w) X.A (call (.ref f) us) (EP X pins σ Q) X.xe s := by
  have lv : vs.length = ps.length := by rw [← rv.len]; exact hl
  have lu : us.length = ps.length := by rw [← r.length]; exact lv
  have bd := hb s us I.kIn (by rw [List.append_nil]; exact lu)
  rw [List.append_nil] at bd
  refine wpAny_call (codeAny_mono (F.run X.A X.stack s H ⟨us, []⟩ us vs Q (fun c d H => W c d σ H) hr.r hr.g I.env0 bd r ⟨lv, J, M, rs, P, xw, d, rv, h, c, cx⟩) fun z s' hq => ?_)
  cases z with
  | error e => exact passAt tk σ pins H s e s' I hq
  | ok fl =>
    cases fl with
    | ret u => exact I.after hq
    | _ => exact False.elim hq
theorem de_call {k : Nat} {f : Addr} {fd : FuncData} {ps : List Str} {dsp : DSp} {x : Str} {p : Pos} {e : Expr} {es : List Expr} {wa : WA} (F : DFn X.prog X.w X.K X.mg X.base k f fd ps dsp) (hr : RoomG k X.A) (hm : X.mg x = some (.ref f)) (hk : PySem.W.keepIn X.K (.ref f) = true) (hb : Binds X.K fd ps []) (tk : Takes X W)
    (ha : DA X W (e :: es) wa) (hl : (e :: es).length = ps.length := by rfl) (hg : Gl X x := by rfl) (hdb : (x == ("__debug__" : Str)) = false := by decide) (he : starEach (e :: es) X.env = (false, eval e X.env) :: starEach es X.env := by rfl) (hpl : (backTo pos (starEach es X.env)).any (·.1) = false := by rfl) :
    DE X W (.Call (.Name x p) (e :: es) [] pos) (wCall dsp wa) := by
  obtain ⟨ta, pa, sa⟩ := ha
  refine ⟨fun σ H Q => ta σ H fun vs H1 => ∃ J1 M1 rs P xw, DSt X.K J1 H1 M1 ∧ RVs X.K J1 rs vs ∧ rs.length = ps.length ∧ dsp rs M1 P xw ∧ Cont X.K J1 P Q ∧ ContX X.K J1 xw fun c d H => W c d σ H, ⟨fun pins s σ H Q I h => ?_⟩, fun J H σ g M P xw Q d rg h c cx => ?_⟩
  · refine wpAny_Call_Name_kw (ld_glob I hg hm ?_ hdb)
    refine PySem.W.callWith_K (h₀ := X.base) I.ok.mod.kin hk (thn (pa.run pos pins s σ H _ I h) fun us s1 hh => ?_) he hpl
    obtain ⟨vs, H1, I1, r, J1, M1, rs, P, xw, d1, rv, hl1, hd, c, cx⟩ := hh
    exact ⟨I1.kIn, run_dfn F hr hb tk I1 r d1 rv hl1 hd c cx⟩
  · exact sa J H σ g M _ xw _ d rg h (fun rs vs J1 H1 M1 p1 l1 e1 d1 r1 => ⟨J1, M1, rs, P, xw, d1, r1, l1.trans hl, p1, c.mono e1, cx.mono e1⟩) cx
end
/-- a def of the text keeps its promise: by its body, read over the data -/
theorem dfn_of {P : Program} {w : World} {K : PySem.W.Frag} {mg : Str → Option Value} {base : Heap} {k : Nat} {f : Addr} {fd : FuncData} {N ps : List Str} {x qual : Str} {params : Arguments} {body : List Stmt} {scope : Scope} {dvs : List V} {kws : List (Str × V)} {dsp : DSp}
    (F : FunD K x qual params body scope dvs kws f fd) (S : FnScope N ps scope)
    (hb : ∀ (cdv : Value) (A : Around) (outer : List Env) (s : Shared) (H : Hp) (E : XK), RoomG k (cxOf (L2.CX P w) P w K mg base N qual scope f cdv A outer s H E).A → Takes (cxOf (L2.CX P w) P w K mg base N qual scope f cdv A outer s H E) (fun cls d _ H => E cls d H) →
      PassesOwn (model P w) (cxOf (L2.CX P w) P w K mg base N qual scope f cdv A outer s H E).A (cxOf (L2.CX P w) P w K mg base N qual scope f cdv A outer s H E).env (cxOf (L2.CX P w) P w K mg base N qual scope f cdv A outer s H E).xe →
      ∃ ws, DSs (cxOf (L2.CX P w) P w K mg base N qual scope f cdv A outer s H E) (fun cls d _ H => E cls d H) body ws ∧
      ∀ rs M Q xw, dsp rs M Q xw → rs.length = ps.length → ws { nx := fun _ M' => ∃ M1, Sub M1 M' ∧ Q .non M1, rt := fun r M' => ∃ M1, Sub M1 M' ∧ Q r M1, xc := fun c fs _ M' => ∃ M1, Sub M1 M' ∧ xw c fs M1 } (rs.map some ++ List.replicate (N.length - ps.length) none) M) :
    DFn P w K mg base (k + 1) f fd ps dsp := by
  refine fng_of F S (fun _ _ _ _ h => h.1) fun cdv A outer s H vs Q E hr hg hsp => ?_
  obtain ⟨hl, J, M, rs, Pp, xw, d, rv, hd, c, cx⟩ := hsp
  obtain ⟨ws, ⟨t, pt, st⟩, hw⟩ := hb cdv A outer s H E ⟨hr, hg⟩ (takes_of rfl rfl rfl rfl) (passes_of rfl)
  have lr : rs.length = ps.length := by rw [rv.len]; exact hl
  refine ⟨t, pt, st J H _ _ M _ _ d ?_ (hw rs M Pp xw hd lr) ⟨?_, ?_, fun _ _ _ _ _ z => z.elim, fun _ _ _ _ _ z => z.elim, ?_⟩⟩
  · refine ⟨?_, fun i r e => ?_⟩
    · unfold L2.start
      rw [List.length_append, List.length_append, List.length_map, List.length_map, List.length_replicate, List.length_replicate, hl, lr]
    · have hi : i < rs.length := by
        by_cases z : i < rs.length
        · exact z
        · rw [List.getElem?_append_right (by rw [List.length_map]; omega), List.getElem?_replicate] at e
          split at e <;> cases e
      rw [List.getElem?_append_left (by rw [List.length_map]; exact hi), List.getElem?_map] at e
      obtain ⟨r', e1, e2⟩ := Option.map_eq_some_iff.mp e
      cases e2
      obtain ⟨v, e3, rr⟩ := rv.get e1
      refine ⟨v, ?_, rr⟩
      unfold L2.start
      rw [List.getElem?_append_left (by rw [List.length_map, ← rv.len]; exact hi), List.getElem?_map, e3]
      rfl
  · rintro g σ J' H' M' ⟨M1, sb, q⟩ e d' _
    exact c .non .non J' H' M1 q e (d'.sub sb) .non
  · rintro r v J' H' M' ⟨M1, sb, q⟩ e d' rv'
    exact c r v J' H' M1 q e (d'.sub sb) rv'
  · rintro cls fs dd g σ J' H' M' ⟨M1, sb, q⟩ e d' _ x
    exact cx cls fs dd J' H' M1 q e (d'.sub sb) x
end DL
set_option Elab.async false
set_option linter.all false
set_option maxRecDepth 100000
set_option maxHeartbeats 2000000
namespace DL
open PySem PySem.Spec L2
open PyProof.Rows hiding St
section
variable {X : Cx} {W : WW} {pos : Pos}
theorem ds_par (i j : Nat) {x y : Str} {a b : Expr} {wa : WA} {px py pt : Pos} {kt k2 pt2} (hc : X.calm = true) (hN : X.N.Nodup) (ha : DA X W [a, b] wa) (hij : i ≠ j := by decide) (hi : X.N[i]? = some x := by rfl) (hj : X.N[j]? = some y := by rfl)
    (hx : X.env.scope.names.lookup x = some .local := by rfl) (hy : X.env.scope.names.lookup y = some .local := by rfl) (hw : swappedStores [.Tuple [.Name x px, .Name y py] kt pt] (.Tuple [a, b] k2 pt2) X.env = pure (some [x, y]) := by rfl)
    (hs : swapsWithSole [.Tuple [.Name x px, .Name y py] kt pt] (.Tuple [a, b] k2 pt2) pos.line X.env = pure false := by rfl) : DS X W (.Assign [.Tuple [.Name x px, .Name y py] kt pt] (.Tuple [a, b] k2 pt2) pos) (sPar i j wa) := by
  obtain ⟨ta, pa, sa⟩ := ha
  refine ⟨_, ps_par hc hN hi hj hij hx hy pa hw hs, fun J H σ g M D E d rg h c => sa J H σ g M _ _ _ d rg h (fun rs vs J1 H1 M1 p1 l1 e1 d1 r1 => ?_) (c.x rg)⟩
  split at p1
  · cases r1 with
    | cons q1 t =>
      cases t with
      | cons q2 t2 =>
        cases t2
        exact ⟨_, _, rfl, c.nx _ _ J1 H1 M1 p1 e1 d1 (((rg.mono e1).set i q1).set j q2)⟩
  · exact p1.elim
end
structure Wk (K : PySem.W.Frag) (it : It) (J0 : Jp) (rs : List R) : Prop where
  go : ∀ (i : Nat) (r : R) (J : Jp) (H : Hp) (M : MH), rs[i]? = some r → ExH J0.j J.j → DSt K J H M → it.go i H ∧ ∀ x H', it.yld i H x H' → ∃ J', Ex J J' ∧ DSt K J' H' M ∧ RV K J' r x
  stop : ∀ (J : Jp) (H : Hp) (M : MH), ExH J0.j J.j → DSt K J H M → it.stop rs.length H
abbrev WI := G → MH → (List R → MH → Prop) → DX → Prop
def SimI (K : PySem.W.Frag) (W : WW) (wi : TI) (w : WI) : Prop := ∀ (J : Jp) (H : Hp) (σ : L2.St) (g : G) (M : MH) (P : List R → MH → Prop) (xw : DX) (Q : It → Hp → Prop), DSt K J H M → RG K J g σ → w g M P xw →
  (∀ rs it J' H' M', P rs M' → Ex J J' → DSt K J' H' M' → Wk K it J' rs → Q it H') → ContX K J xw (fun c d H => W c d σ H) → wi σ H Q
structure DI (X : Cx) (W : WW) (tg iter : Expr) (w : WI) : Prop where
  ex : ∃ t, PI X tg iter t ∧ SimI X.K W t w
section
variable {K : PySem.W.Frag}
theorem SqL.get {pins : List (Addr × Obj)} {J J' : Hp} {a : Addr} {vs : List V} (e : ExH J J') (h : J a = some (.lst vs)) : SqL K J' a vs := .inl (.inl (e _ _ h))
theorem wk_lst {J0 : Jp} {a : Addr} {vs : List V} {rs : List R} (h : J0.j a = some (.lst vs)) (r : RVs K J0 rs vs) : Wk K (Itl K a) J0 rs where
  go := fun i q J H M e x d => by
    obtain ⟨v, h1, h2⟩ := r.get e
    have sq : SqL K H a vs := .inl (.inl (d.ex _ _ (x _ _ h)))
    refine ⟨⟨vs, v, sq, h1⟩, fun y H' z => ?_⟩
    obtain ⟨rfl, z⟩ := z
    have z2 := z vs sq
    rw [h1] at z2; cases z2
    exact ⟨J, Ex.rfl', d, h2.mj x⟩
  stop := fun J H M x d => ⟨vs, .inl (.inl (d.ex _ _ (x _ _ h))), by rw [r.len]; exact Nat.le_refl _⟩
theorem wk_scr {J0 : Jp} {a : Addr} {ns : List Int} (h : Ls K J0.j a (ns.map V.int)) : Wk K (Itl K a) J0 (ns.map R.int) where
  go := fun i q J H M e x d => by
    obtain ⟨v, h1, h2⟩ := (ints_rvs (K := K) (J := J0) ns).get e
    have sq : SqL K H a (ns.map V.int) := (d.ex.ls (x.ls h)).sq
    refine ⟨⟨_, v, sq, h1⟩, fun y H' z => ?_⟩
    obtain ⟨rfl, z⟩ := z
    have z2 := z _ sq
    rw [h1] at z2; cases z2
    exact ⟨J, Ex.rfl', d, h2.mj x⟩
  stop := fun J H M x d => ⟨_, (d.ex.ls (x.ls h)).sq, by simp⟩
theorem wk_tup {J0 : Jp} {a : Addr} {vs : List V} {rs : List R} (h : SqT K J0.j a vs) (r : RVs K J0 rs vs) : Wk K (Itt K a) J0 rs where
  go := fun i q J H M e x d => by
    obtain ⟨v, h1, h2⟩ := r.get e
    have sq : SqT K H a vs := d.ex.sqT (x.sqT h)
    refine ⟨⟨vs, v, sq, h1⟩, fun y H' z => ?_⟩
    obtain ⟨rfl, z⟩ := z
    have z2 := z vs sq
    rw [h1] at z2; cases z2
    exact ⟨J, Ex.rfl', d, h2.mj x⟩
  stop := fun J H M x d => ⟨vs, d.ex.sqT (x.sqT h), by rw [r.len]; exact Nat.le_refl _⟩
def intsFrom (lo : Int) (n : Nat) : List R := (List.range n).map fun (i : Nat) => R.int (lo + (i : Int))
theorem intsFrom_len (lo : Int) (n : Nat) : (intsFrom lo n).length = n := by simp [intsFrom]
theorem intsFrom_get {lo : Int} {n i : Nat} {r : R} (h : (intsFrom lo n)[i]? = some r) : i < n ∧ r = .int (lo + (i : Int)) := by
  unfold intsFrom at h
  rw [List.getElem?_map] at h
  obtain ⟨j, h1, h2⟩ := Option.map_eq_some_iff.mp h
  obtain ⟨h3, h4⟩ := List.getElem?_eq_some_iff.mp h1
  rw [List.getElem_range] at h4
  rw [List.length_range] at h3
  subst h4
  exact ⟨h3, h2.symm⟩
theorem wk_rng {J0 : Jp} {lo : Int} {n : Nat} : Wk K (Itr lo n) J0 (intsFrom lo n) where
  go := fun i q J H M e x d => by
    obtain ⟨h1, h2⟩ := intsFrom_get e
    subst h2
    refine ⟨h1, fun y H' z => ?_⟩
    obtain ⟨rfl, rfl⟩ := z
    exact ⟨J, Ex.rfl', d, .int _⟩
  stop := fun J H M x d => by rw [intsFrom_len]; exact Nat.le_refl n
def signsOf (x : Str) : List R := x.cps.toList.map fun c => R.str ⟨#[c]⟩
theorem wk_str {J0 : Jp} {x : Str} : Wk K (Its x) J0 (signsOf x) where
  go := fun i q J H M e _ d => by
    unfold signsOf at e
    rw [List.getElem?_map] at e
    obtain ⟨c, h1, h2⟩ := Option.map_eq_some_iff.mp e
    subst h2
    have h3 : x.cps[i]? = some c := by simpa using h1
    have h4 : i < x.cps.size := (Array.getElem?_eq_some_iff.mp h3).1
    refine ⟨h4, fun y H' z => ?_⟩
    obtain ⟨rfl, c', z, rfl⟩ := z
    rw [h3] at z; cases z
    exact ⟨J, Ex.rfl', d, .str _⟩
  stop := fun J H M _ d => by unfold signsOf; simp [Its]
theorem new_pair {J : Jp} {H : Hp} {M : MH} {T : Addr} {x y : V} {r q : R} (d : DSt K J H M) (hT : H T = none) (h1 : RV K J r x) (h2 : RV K J q y) : ∃ J', Ex J J' ∧ DSt K J' (upd H T (.tup [x, y])) M ∧ RV K J' (.tup [r, q]) (.ref T) :=
  ⟨J.put T (.tup [x, y]), Ex.new (d.jnone hT), d.new hT, .tup (.inl (.inl upd_same)) (.cons (h1.mono (Ex.new (d.jnone hT))) (.cons (h2.mono (Ex.new (d.jnone hT))) .nil))⟩
def enumR (rs : List R) : List R := rs.zipIdx.map fun p => R.tup [.int (p.2 : Nat), p.1]
theorem enumR_get {rs : List R} {i : Nat} {r : R} (h : (enumR rs)[i]? = some r) : ∃ x, rs[i]? = some x ∧ r = .tup [.int (i : Nat), x] := by
  unfold enumR at h
  rw [List.getElem?_map] at h
  obtain ⟨p, h1, h2⟩ := Option.map_eq_some_iff.mp h
  rw [List.getElem?_zipIdx] at h1
  obtain ⟨x, h3, h4⟩ := Option.map_eq_some_iff.mp h1
  subst h4
  exact ⟨x, h3, by rw [← h2]; simp⟩
theorem wk_enum {J0 : Jp} {a : Addr} {vs : List V} {rs : List R} (h : J0.j a = some (.lst vs)) (r : RVs K J0 rs vs) : Wk K (Ite K a) J0 (enumR rs) where
  go := fun i q J H M e x d => by
    obtain ⟨r', e1, rfl⟩ := enumR_get e
    obtain ⟨v, g1, g2⟩ := r.get e1
    have sq : SqL K H a vs := .inl (.inl (d.ex _ _ (x _ _ h)))
    refine ⟨⟨vs, v, sq, g1⟩, fun y H' z => ?_⟩
    obtain ⟨T, x', rfl, hT, rfl, z1⟩ := z
    have z3 := z1 vs sq
    rw [g1] at z3; cases z3
    exact new_pair d hT (.int _) (g2.mj x)
  stop := fun J H M x d => ⟨vs, .inl (.inl (d.ex _ _ (x _ _ h))), by rw [← r.len]; simp [enumR]⟩
end
end DL
set_option Elab.async false
set_option linter.all false
set_option maxRecDepth 100000
set_option maxHeartbeats 2000000
namespace DL
open PySem PySem.Spec L2
open PyProof.Rows hiding St
section
variable {X : Cx} {W : WW} {pos : Pos}
/-- of a list that stands, of the script, of a list that is done with (it is out of M then), of a tuple -/
def eraseM (M : MH) (a : Addr) : MH := fun b => if b = a then none else M b
theorem eraseM_sub {M : MH} {a : Addr} : Sub (eraseM M a) M := fun b m e => by
  unfold eraseM at e
  split at e
  · cases e
  · exact e
theorem eraseM_same {M : MH} {a : Addr} : eraseM M a a = none := if_pos rfl
/-- return of a list that changed so far: it stands from now on -/
def sRetF (w : WE) : WS := fun D g M => w g M (fun r M1 => match r with
  | .o a => ∃ rs, M1 a = some (.lst rs) ∧ D.rt (.lst rs) (eraseM M1 a)
  | r => D.rt r M1) (fun c f M' => D.xc c f g M')
theorem ds_retF {e : Expr} {w : WE} (h : DE X W e w) : DS X W (.Return (some e) pos) (sRetF w) := by
  obtain ⟨te, pe, s⟩ := h
  refine ⟨_, ps_ret pe, fun J H σ g M D E d rg h c => s J H σ g M _ _ _ d rg h (fun r v J1 H1 M1 p1 e1 d1 r1 => ?_) (c.x rg)⟩
  split at p1
  · obtain ⟨rs, q1, q2⟩ := p1
    cases r1
    obtain ⟨J2, e2, d2, r2⟩ := d1.freeze q1 eraseM_sub eraseM_same
    exact c.rt _ _ J2 H1 _ q2 (e1.trans e2) d2 r2
  · exact c.rt _ _ J1 H1 M1 p1 e1 d1 r1
def srcL (w : WE) : WI := fun g M P xw => w g M (fun r M1 => match r with
  | .lst rs => P rs M1
  | .scr ns => P (ns.map R.int) M1
  | .o a => ∃ rs, M1 a = some (.lst rs) ∧ P rs (eraseM M1 a)
  | _ => False) xw
theorem di_list {tg e : Expr} {w : WE} (h : DE X W e w) : DI X W tg e (srcL w) := by
  obtain ⟨te, pe, s⟩ := h
  refine ⟨_, pi_list pe, fun J H σ g M P xw Q d rg h c cx => s J H σ g M _ xw _ d rg h (fun r v J1 H1 M1 p1 e1 d1 r1 => ?_) cx⟩
  split at p1
  · cases r1 with
    | lst q1 q2 => exact ⟨_, rfl, ⟨_, .inl (.inl (d1.ex _ _ q1))⟩, c _ _ J1 H1 M1 p1 e1 d1 (wk_lst q1 q2)⟩
  · cases r1 with
    | scr q1 => exact ⟨_, rfl, ⟨_, (d1.ex.ls q1).sq⟩, c _ _ J1 H1 M1 p1 e1 d1 (wk_scr q1)⟩
  · obtain ⟨rs, q1, q2⟩ := p1
    cases r1
    obtain ⟨J2, e2, d2, r2⟩ := d1.freeze q1 eraseM_sub eraseM_same
    cases r2 with
    | lst q3 q4 => exact ⟨_, rfl, ⟨_, .inl (.inl (d2.ex _ _ q3))⟩, c _ _ J2 H1 _ q2 (e1.trans e2) d2 (wk_lst q3 q4)⟩
  · exact p1.elim
def srcT (w : WE) : WI := fun g M P xw => w g M (fun r M1 => match r with
  | .tup rs => P rs M1
  | .pt rs => P rs M1
  | _ => False) xw
theorem di_tup {tg e : Expr} {w : WE} (h : DE X W e w) : DI X W tg e (srcT w) := by
  obtain ⟨te, pe, s⟩ := h
  refine ⟨_, pi_tup pe, fun J H σ g M P xw Q d rg h c cx => s J H σ g M _ xw _ d rg h (fun r v J1 H1 M1 p1 e1 d1 r1 => ?_) cx⟩
  split at p1
  · cases r1 with
    | tup q1 q2 => exact ⟨_, rfl, ⟨_, d1.ex.sqT q1⟩, c _ _ J1 H1 M1 p1 e1 d1 (wk_tup q1 q2)⟩
  · cases r1 with
    | pt q0 _ q2 =>
      have q1 := RV.ptT (K := X.K) q0
      exact ⟨_, rfl, ⟨_, d1.ex.sqT q1⟩, c _ _ J1 H1 M1 p1 e1 d1 (wk_tup q1 q2)⟩
  · exact p1.elim
def srcS (w : WE) : WI := fun g M P xw => w g M (fun r M1 => match r with
  | .str x => P (signsOf x) M1
  | _ => False) xw
theorem di_str {tg e : Expr} {w : WE} (h : DE X W e w) : DI X W tg e (srcS w) := by
  obtain ⟨te, pe, s⟩ := h
  refine ⟨_, pi_str pe, fun J H σ g M P xw Q d rg h c cx => s J H σ g M _ xw _ d rg h (fun r v J1 H1 M1 p1 e1 d1 r1 => ?_) cx⟩
  split at p1
  · cases r1
    exact ⟨_, rfl, c _ _ J1 H1 M1 p1 e1 d1 wk_str⟩
  · exact p1.elim
def srcR1 (w : WE) : WI := fun g M P xw => w g M (fun r M1 => match r with
  | .int n => (-(2 ^ 62) ≤ n ∧ n < 2 ^ 62) ∧ P (intsFrom 0 n.toNat) M1
  | _ => False) xw
theorem di_range1 {tg e : Expr} {p : Pos} {w : WE} (hm : X.mg "range" = none) (h : DE X W e w) (hg : Gl X "range" := by rfl) (hs : starEach [e] X.env = [(false, eval e X.env)] := by rfl) : DI X W tg (.Call (.Name "range" p) [e] [] pos) (srcR1 w) := by
  obtain ⟨te, pe, s⟩ := h
  refine ⟨_, pi_range1 hg hm (pa_cons pe pa_nil hs) hs, fun J H σ g M P xw Q d rg h c cx => s J H σ g M _ xw _ d rg h (fun r v J1 H1 M1 p1 e1 d1 r1 => ?_) cx⟩
  split at p1
  · cases r1
    exact ⟨_, rfl, p1.1.1, p1.1.2, c _ _ J1 H1 M1 p1.2 e1 d1 wk_rng⟩
  · exact p1.elim
def srcE (w : WE) : WI := fun g M P xw => w g M (fun r M1 => match r with
  | .lst rs => P (enumR rs) M1
  | _ => False) xw
theorem di_enum {elts : List Expr} {kk : Nat} {tpos : Pos} {e : Expr} {p : Pos} {w : WE} (hm : X.mg "enumerate" = none) (h : DE X W e w) (hg : Gl X "enumerate" := by rfl) (hs : starEach [e] X.env = [(false, eval e X.env)] := by rfl) :
    DI X W (.Tuple elts kk tpos) (.Call (.Name "enumerate" p) [e] [] pos) (srcE w) := by
  obtain ⟨te, pe, s⟩ := h
  refine ⟨_, pi_enum hg hm (pa_cons pe pa_nil hs) hs, fun J H σ g M P xw Q d rg h c cx => s J H σ g M _ xw _ d rg h (fun r v J1 H1 M1 p1 e1 d1 r1 => ?_) cx⟩
  split at p1
  · cases r1 with
    | lst q1 q2 => exact ⟨_, _, rfl, .inl (.inl (d1.ex _ _ q1)), c _ _ J1 H1 M1 p1 e1 d1 (wk_enum q1 q2)⟩
  · exact p1.elim
def sFor (wi : WI) (wg : WG) (wb : WS) : WS := fun D g M => wi g M (fun rs M1 => ∃ Inv : Nat → G → MH → Prop, Inv 0 g M1 ∧
  (∀ i r g' M', rs[i]? = some r → Inv i g' M' → wg r g' M' (fun g2 M2 => wb (D.wl (Inv (i + 1))) g2 M2)) ∧ (∀ g' M', Inv rs.length g' M' → D.nx g' M')) (fun c f M' => D.xc c f g M')
theorem ds_for {tg iter : Expr} {body : List Stmt} {wi : WI} {wg : WG} {wb : WS} (hp : PassesOwn (model X.prog X.w) X.A X.env X.xe) (hc : X.calm = true) (hi : DI X W tg iter wi) (hg : DG X tg wg) (hb : DSs X W body wb)
    (hs : ∀ x, foldedSetIterable iter X.env x = pure x := by intro _; rfl) : DS X W (.For tg iter body [] pos) (sFor wi wg wb) := by
  obtain ⟨ti, pi, si⟩ := hi
  obtain ⟨tt, pt, st⟩ := hg
  obtain ⟨tb, pb, sb⟩ := hb
  refine ⟨_, ps_for hp hc pi pt pb hs, fun J H σ g M D E d rg h c => si J H σ g M _ _ _ d rg h (fun rs it J1 H1 M1 p1 e1 d1 wk => ?_) (c.x rg)⟩
  obtain ⟨Inv, i0, turn, done⟩ := p1
  refine ⟨fun i m σ' H' => m = rs.length - i ∧ i ≤ rs.length ∧ ∃ J' g' M', Ex J1 J' ∧ DSt X.K J' H' M' ∧ RG X.K J' g' σ' ∧ Inv i g' M', ⟨_, rfl, Nat.zero_le _, J1, g, M1, Ex.rfl', d1, rg.mono e1, i0⟩, ?_⟩
  rintro i m σ' H' ⟨rfl, hi, J', g', M', e2, d2, rg2, inv⟩
  by_cases lt : i < rs.length
  · obtain ⟨go, yl⟩ := wk.go i rs[i] J' H' M' (by simp [lt]) e2.1 d2
    refine .inr ⟨go, fun σ2 H2 => ∃ J2 g2 M2, Ex J1 J2 ∧ DSt X.K J2 H2 M2 ∧ RG X.K J2 g2 σ2 ∧ Inv (i + 1) g2 M2, fun σ2 H2 q => ⟨_, ?_, rfl, lt, q⟩, fun x H2 y => ?_⟩
    · show rs.length - (i + 1) < rs.length - i
      omega
    obtain ⟨J3, e3, d3, r3⟩ := yl x H2 y
    have k := turn i rs[i] g' M' (by simp [lt]) inv
    refine st J3 H2 σ' g' M' rs[i] x _ _ d3 (rg2.mono e3) r3 k fun g4 σ4 J4 H4 M4 p4 e4 d4 rg4 => ?_
    have e14 : Ex J J4 := ((e1.trans e2).trans e3).trans e4
    refine sb J4 H4 σ4 g4 M4 _ _ d4 rg4 p4 ⟨?_, c.rt.mono e14, c.nx.mono e14, ?_, c.xc.mono e14⟩
    · exact fun g5 σ5 J5 H5 M5 p5 e5 d5 rg5 => ⟨J5, g5, M5, ((e2.trans e3).trans e4).trans e5, d5, rg5, p5⟩
    · exact fun g5 σ5 J5 H5 M5 p5 e5 d5 rg5 => ⟨J5, g5, M5, ((e2.trans e3).trans e4).trans e5, d5, rg5, p5⟩
  · have z : i = rs.length := by omega
    subst z
    exact .inl ⟨wk.stop J' H' M' e2.1 d2, c.nx g' σ' J' H' M' (done g' M' inv) (e1.trans e2) d2 rg2⟩
def sWhile (wt : WT) (wb : WS) : WS := fun D g M => ∃ Inv : Nat → G → MH → Prop, (∃ m, Inv m g M) ∧ ∀ m g' M', Inv m g' M' → wt g' M' (fun b M1 =>
  (b = true → wb (D.wl fun g2 M2 => ∃ m', m' < m ∧ Inv m' g2 M2) g' M1) ∧ (b = false → D.nx g' M1)) (fun c f M2 => D.xc c f g' M2)
theorem ds_while {t : Expr} {body : List Stmt} {wt : WT} {wb : WS} (hp : PassesOwn (model X.prog X.w) X.A X.env X.xe) (ht : DT X W t wt) (hb : DSs X W body wb) : DS X W (.While t body [] pos) (sWhile wt wb) := by
  obtain ⟨tt, pt, st⟩ := ht
  obtain ⟨tb, pb, sb⟩ := hb
  refine ⟨_, ps_while hp pt pb, fun J H σ g M D E d rg h c => ?_⟩
  obtain ⟨Inv, ⟨m0, i0⟩, turn⟩ := h
  refine ⟨fun m σ' H' => ∃ J' g' M', Ex J J' ∧ DSt X.K J' H' M' ∧ RG X.K J' g' σ' ∧ Inv m g' M', ⟨m0, J, g, M, Ex.rfl', d, rg, i0⟩, ?_⟩
  rintro m σ' H' ⟨J', g', M', e2, d2, rg2, inv⟩
  refine st J' H' σ' g' M' _ _ _ d2 rg2 (turn m g' M' inv) (fun b J1 H1 M1 p1 e1 d1 => ?_) ((c.mono e2).x rg2)
  cases b with
  | true =>
    rw [if_pos rfl]
    refine ⟨fun σ2 H2 => ∃ m', m' < m ∧ ∃ J2 g2 M2, Ex J J2 ∧ DSt X.K J2 H2 M2 ∧ RG X.K J2 g2 σ2 ∧ Inv m' g2 M2, fun σ2 H2 q => q, ?_⟩
    have e14 : Ex J J1 := e2.trans e1
    refine sb J1 H1 σ' g' M1 _ _ d1 (rg2.mono e1) (p1.1 rfl) ⟨?_, c.rt.mono e14, c.nx.mono e14, ?_, c.xc.mono e14⟩
    · exact fun g5 σ5 J5 H5 M5 ⟨m', l, p5⟩ e5 d5 rg5 => ⟨m', l, J5, g5, M5, e14.trans e5, d5, rg5, p5⟩
    · exact fun g5 σ5 J5 H5 M5 ⟨m', l, p5⟩ e5 d5 rg5 => ⟨m', l, J5, g5, M5, e14.trans e5, d5, rg5, p5⟩
  | false =>
    rw [if_neg Bool.false_ne_true]
    exact c.nx g' σ' J1 H1 M1 (p1.2 rfl) (e2.trans e1) d1 (rg2.mono e1)
end
end DL
set_option Elab.async false
set_option linter.all false
set_option maxRecDepth 100000
set_option maxHeartbeats 2000000
namespace DL
open PySem PySem.Spec L2
open PyProof.Rows hiding St
def encE (K : PySem.W.Frag) (W : WW) (w : WE) : TE := fun σ H Q => ∃ J g M P xw, DSt K J H M ∧ RG K J g σ ∧ w g M P xw ∧ Cont K J P Q ∧ ContX K J xw (fun c d H => W c d σ H)
def encT (K : PySem.W.Frag) (W : WW) (w : WT) : TT := fun σ H Q => ∃ J g M P xw, DSt K J H M ∧ RG K J g σ ∧ w g M P xw ∧ ContB K J P Q ∧ ContX K J xw (fun c d H => W c d σ H)
section
variable {X : Cx} {W : WW} {pos : Pos}
theorem DE.pe {e : Expr} {w : WE} (h : DE X W e w) : PE X e (encE X.K W w) := by
  obtain ⟨te, pe, s⟩ := h
  exact ⟨fun pins s1 σ H Q I ⟨J, g, M, P, xw, d, rg, hw, c, cx⟩ => pe.run pins s1 σ H Q I (s J H σ g M P xw Q d rg hw c cx)⟩
theorem DT.pt {e : Expr} {w : WT} (h : DT X W e w) : PT X e (encT X.K W w) := by
  obtain ⟨te, pe, s⟩ := h
  exact ⟨fun pins s1 σ H Q I ⟨J, g, M, P, xw, d, rg, hw, c, cx⟩ => pe.run pins s1 σ H Q I (s J H σ g M P xw Q d rg hw c cx)⟩
end
abbrev noX : DX := fun _ _ _ => False
theorem noX_cont {K : PySem.W.Frag} {J : Jp} {E : EW} : ContX K J noX E := fun _ _ _ _ _ _ p => p.elim
abbrev W0 : WW := fun _ _ _ _ => False
theorem wipe_out' {σ : L2.St} {j : Nat} : ∀ {vs : List Nat}, j ∉ vs → (L2.wipe σ vs)[j]? = σ[j]?
  | [], _ => rfl
  | v :: vs, h => by
    unfold L2.wipe
    rw [List.getElem?_set_ne (fun z => h (by rw [z]; exact List.mem_cons_self)), wipe_out' fun z => h (List.mem_cons_of_mem _ z)]
theorem wipe_in {σ : L2.St} {j : Nat} (l : j < σ.length) : ∀ {vs : List Nat}, j ∈ vs → (L2.wipe σ vs)[j]? = some none
  | v :: vs, h => by
    unfold L2.wipe
    by_cases z : v = j
    · subst z
      rw [List.getElem?_set_self (by rw [L2.wipe_length]; exact l)]
    · rw [List.getElem?_set_ne z]
      exact wipe_in l ((List.mem_cons.mp h).resolve_left fun q => z q.symm)
theorem wipe_ext {σ σ' : L2.St} {vs : List Nat} (hl : σ'.length = σ.length) (h : ∀ j, j ∉ vs → σ'[j]? = (L2.wipe σ vs)[j]?) : L2.wipe σ' vs = L2.wipe σ vs := by
  apply List.ext_getElem?
  intro j
  by_cases z : j ∈ vs
  · by_cases l : j < σ.length
    · rw [wipe_in l z, wipe_in (by omega) z]
    · rw [List.getElem?_eq_none (by rw [L2.wipe_length]; omega), List.getElem?_eq_none (by rw [L2.wipe_length]; omega)]
  · rw [wipe_out' z, h j z]
theorem nin {i j : Nat} {vs : List Nat} (h : i ∈ vs) (hj : j ∉ vs) : i ≠ j := fun z => hj (by rw [← z]; exact h)
theorem wipe_set {σ : L2.St} {vs : List Nat} {i : Nat} {x : Option V} (h : i ∈ vs) : L2.wipe ((L2.wipe σ vs).set i x) vs = L2.wipe σ vs :=
  wipe_ext (by rw [List.length_set, L2.wipe_length]) fun j hj => List.getElem?_set_ne (nin h hj)
theorem wipe_set2 {σ : L2.St} {vs : List Nat} {i j : Nat} {x y : Option V} (h : i ∈ vs) (h2 : j ∈ vs) : L2.wipe (((L2.wipe σ vs).set i x).set j y) vs = L2.wipe σ vs :=
  wipe_ext (by rw [List.length_set, List.length_set, L2.wipe_length]) fun k hk => by
    rw [List.getElem?_set_ne (nin h2 hk), List.getElem?_set_ne (nin h hk)]
/-- a target in a comprehension: its store, read over the data, keeps to its own names -/
structure SimC (K : PySem.W.Frag) (vs : List Nat) (t : TG) (w : WG) : Prop where
  run : ∀ (J : Jp) (H : Hp) (σ : L2.St) (g : G) (M : MH) (r : R) (v : V) (P : G → MH → Prop) (Q : L2.St → Hp → Prop), DSt K J H M → RG K J (wipeG g vs) (L2.wipe σ vs) → RV K J r v → w r (wipeG g vs) M P →
    (∀ g' σ' J' H' M', P g' M' → Ex J J' → DSt K J' H' M' → RG K J' g' σ' → L2.wipe σ' vs = L2.wipe σ vs → Q σ' H') → t v (L2.wipe σ vs) H Q
theorem simc1 {K : PySem.W.Frag} {vs : List Nat} {i : Nat} (h : i ∈ vs) : SimC K vs (gName i) (gSet i) :=
  ⟨fun J H σ g M r v P Q d rg rv hw c => c _ _ J H M hw Ex.rfl' d (rg.set i rv) (wipe_set h)⟩
theorem two_of {K : PySem.W.Frag} {J : Jp} {rs : List R} {vs : List V} (q : RVs K J rs vs) (hl : rs.length = 2) : ∃ r1 r2 v1 v2, rs = [r1, r2] ∧ vs = [v1, v2] ∧ RV K J r1 v1 ∧ RV K J r2 v2 := by
  cases q with
  | nil => cases hl
  | cons a q =>
    cases q with
    | nil => cases hl
    | cons b q =>
      cases q with
      | nil => exact ⟨_, _, _, _, rfl, rfl, a, b⟩
      | cons c q => simp at hl
theorem simc2 {K : PySem.W.Frag} {vs : List Nat} {i j : Nat} (h : i ∈ vs) (h2 : j ∈ vs) : SimC K vs (gTup K 2 (gCons (gName i) (gCons (gName j) gNil))) (gTupW 2 (gsCons (gSet i) (gsCons (gSet j) gsNil))) := by
  constructor
  intro J H σ g M r v P Q d rg rv hw c
  unfold gTupW at hw
  split at hw
  · obtain ⟨hl, hw⟩ := hw
    cases rv with
    | tup q1 q2 =>
      obtain ⟨r1, r2, v1, v2, rfl, rfl, h1, h2'⟩ := two_of q2 hl
      exact ⟨_, _, rfl, d.ex.sqT q1, rfl, _, _, rfl, _, _, rfl, rfl, c _ _ J H M hw Ex.rfl' d ((rg.set i h1).set j h2') (wipe_set2 h h2)⟩
  · exact hw.elim
/-- [e for tg in iter if t], all told: which list, is shown by a word of the turn, what is made so far, what may change -/
def wLc (wi : WI) (wg : WG) (wt : WT) (we : WE) (vs : List Nat) : WE := fun g M P xw => wi g M (fun rs M1 => rs.length < sizeLine ∧ ∃ Inv : Nat → List R → MH → Prop, Inv 0 [] M1 ∧
  (∀ i r acc M', rs[i]? = some r → acc.length ≤ i → Inv i acc M' → wg r (wipeG g vs) M' (fun g2 M2 => wt g2 M2 (fun b M3 => (b = true → we g2 M3 (fun e M4 => Inv (i + 1) (acc ++ [e]) M4) noX) ∧ (b = false → Inv (i + 1) acc M3)) noX)) ∧
  (∀ acc M', acc.length ≤ rs.length → Inv rs.length acc M' → P (.lst acc) M')) xw
/-- .. and the list will change -/
def wLcO (wi : WI) (wg : WG) (wt : WT) (we : WE) (vs : List Nat) : WE := fun g M P xw => wi g M (fun rs M1 => rs.length < sizeLine ∧ ∃ Inv : Nat → List R → MH → Prop, Inv 0 [] M1 ∧
  (∀ i r acc M', rs[i]? = some r → acc.length ≤ i → Inv i acc M' → wg r (wipeG g vs) M' (fun g2 M2 => wt g2 M2 (fun b M3 => (b = true → we g2 M3 (fun e M4 => Inv (i + 1) (acc ++ [e]) M4) noX) ∧ (b = false → Inv (i + 1) acc M3)) noX)) ∧
  (∀ acc M', acc.length ≤ rs.length → Inv rs.length acc M' → ∀ a, M' a = none → P (.o a) (updM M' a (.lst acc)))) xw
section
variable {K : PySem.W.Frag}
theorem MOk.mj {J J' : Jp} {H H' : Hp} {a : Addr} {m : MO} (e : ExH J.j J'.j) (h : H' a = H a) (x : MOk K J H a m) : MOk K J' H' a m := by
  cases m with
  | lst rs => exact let ⟨vs, q, b⟩ := x; ⟨vs, h.trans q, b.mj e⟩
  | dK kvs => exact let ⟨vs, q, b⟩ := x; ⟨vs, h.trans q, b.mj e⟩
  | ins C fs => exact let ⟨dx, vs, q, b⟩ := x; ⟨dx, vs, h.trans q, b.mj e⟩
  | dr => exact let ⟨ns, t, l, u, h0, vs, q, b⟩ := x; ⟨ns, t, l, u, h0, vs, h.trans q, b.mj e⟩
  | fK => exact ⟨h.trans x.1, x.2.mj e⟩
def Jp.keep (J : Jp) (p : Addr) (o : HO) : Jp := ⟨J.j, upd J.f p o⟩
theorem DSt.keep {J : Jp} {H : Hp} {M : MH} {p : Addr} {o : HO} (d : DSt K J H M) (h : H p = some o) (hj : J.j p = none) (hm : M p = none) : DSt K (J.keep p o) H M := by
  refine ⟨d.ex, fun a q e => ?_, fun a q e => ?_, fun a m e => ?_, fun a m e => ?_⟩
  · have e' : upd J.f p o a = some q := e
    by_cases z : a = p
    · rw [z, upd_same] at e'; rw [z, h, e']
    · rw [upd_ne z] at e'; exact d.fr _ _ e'
  · have e' : upd J.f p o a = some q := e
    by_cases z : a = p
    · rw [z]; exact hj
    · rw [upd_ne z] at e'; exact d.fj _ _ e'
  · have n : a ≠ p := fun z => by rw [z, hm] at e; cases e
    refine ⟨(d.no a m e).1, ?_⟩
    show upd J.f p o a = none
    rw [upd_ne n]; exact (d.no a m e).2
  · exact MOk.mj (J := J) (J' := J.keep p o) (fun _ _ z => z) rfl (d.mo a m e)
theorem DSt.drop {J J' : Jp} {H : Hp} {M : MH} {p : Addr} {o o' : HO} (d : DSt K J' H M) (e : Ex (J.keep p o) J') (hn : M p = none) (hf : J.f p = none) : Ex J ⟨J'.j, J.f⟩ ∧ DSt K ⟨J'.j, J.f⟩ (upd H p o') M := by
  have ef : J'.f = upd J.f p o := e.2
  have fp : J'.f p = some o := by rw [ef, upd_same]
  have jp : J'.j p = none := d.fj p o fp
  refine ⟨⟨e.1, rfl⟩, fun a q z => ?_, fun a q z => ?_, fun a q z => ?_, fun a m z => ?_, fun a m z => ?_⟩
  · have z' : J'.j a = some q := z
    rw [upd_ne (ne_of_none z' jp)]; exact d.ex _ _ z'
  · have z' : J.f a = some q := z
    have n := ne_of_none z' hf
    rw [upd_ne n]; exact d.fr _ _ (by rw [ef, upd_ne n]; exact z')
  · have z' : J.f a = some q := z
    exact d.fj a q (by rw [ef, upd_ne (ne_of_none z' hf)]; exact z')
  · have n : a ≠ p := fun w => by rw [w, hn] at z; cases z
    refine ⟨(d.no a m z).1, ?_⟩
    have := (d.no a m z).2
    rw [ef, upd_ne n] at this
    exact this
  · have n : a ≠ p := fun w => by rw [w, hn] at z; cases z
    exact MOk.mj (J := J') (J' := ⟨J'.j, J.f⟩) (fun _ _ z => z) (upd_ne n) (d.mo a m z)
theorem RV.jf {J J' : Jp} {r : R} {v : V} (h : RV K J r v) (e : J'.j = J.j) : RV K J' r v := h.mj (by rw [e]; exact fun _ _ z => z)
theorem KRV.jf {κ : Type} {J J' : Jp} {r : List (κ × R)} {v : List (κ × V)} (h : KRV K J r v) (e : J'.j = J.j) : KRV K J' r v := h.mj (by rw [e]; exact fun _ _ z => z)
end
section
variable {X : Cx} {W : WW} {pos : Pos}
theorem sim_lc {K : PySem.W.Frag} {wi : WI} {ti : TI} {t : TG} {wg : WG} {wt : WT} {we : WE} {vs : List Nat} (si : SimI K W ti wi) (sg : SimC K vs t wg) {J : Jp} {H : Hp} {σ : L2.St} {g : G} {M : MH} {xw : DX} {Q : VK} {Fin : List R → MH → Prop}
    (d : DSt K J H M) (rg : RG K J g σ) (h : wi g M (fun rs M1 => rs.length < sizeLine ∧ ∃ Inv : Nat → List R → MH → Prop, Inv 0 [] M1 ∧
  (∀ i r acc M', rs[i]? = some r → acc.length ≤ i → Inv i acc M' → wg r (wipeG g vs) M' (fun g2 M2 => wt g2 M2 (fun b M3 => (b = true → we g2 M3 (fun e M4 => Inv (i + 1) (acc ++ [e]) M4) noX) ∧ (b = false → Inv (i + 1) acc M3)) noX)) ∧
  (∀ acc M', acc.length ≤ rs.length → Inv rs.length acc M' → Fin acc M')) xw) (cx : ContX K J xw (fun c d H => W c d σ H))
    (fin : ∀ acc us J' H' M' D, Fin acc M' → Ex J J' → DSt K J' H' M' → J'.j D = none → J'.f D = none → M' D = none → H' D = some (.lst us) → RVs K J' acc us → Q (.ref D) H') :
    tLc ti t (encT K W0 wt) (encE K W0 we) vs σ H Q := by
  refine si J H σ g M _ xw _ d rg h (fun rs it J1 H1 M1 p1 e1 d1 wk => ?_) cx
  obtain ⟨hsz, Inv, i0, turn, done⟩ := p1
  intro D hD
  have rg1 := rg.mono e1
  refine ⟨fun i m H' => m = rs.length - i ∧ i ≤ rs.length ∧ ∃ J' M' acc us, Ex J1 J' ∧ DSt K J' H' M' ∧ J'.j D = none ∧ J'.f D = none ∧ M' D = none ∧ H' D = some (.lst us) ∧ RVs K J' acc us ∧ acc.length ≤ i ∧ Inv i acc M',
    ⟨_, rfl, Nat.zero_le _, J1, M1, [], [], Ex.rfl', ?_, d1.jnone hD, d1.fnone hD, d1.mnone hD, upd_same, .nil, Nat.le_refl _, i0⟩, ?_⟩
  · refine ⟨fun a q e => ?_, fun a q e => ?_, d1.fj, d1.no, fun a m e => (d1.mo a m e).mono Ex.rfl' (upd_ne (d1.mne hD a m e))⟩
    · rw [upd_ne (ne_of_none e (d1.jnone hD))]; exact d1.ex _ _ e
    · rw [upd_ne (ne_of_none e (d1.fnone hD))]; exact d1.fr _ _ e
  rintro i m H' ⟨rfl, hi, J', M', acc, us, e2, d2, jD, fD, mD, hH, ra, la, inv⟩
  by_cases lt : i < rs.length
  · have dk := d2.keep hH jD mD
    obtain ⟨go, yl⟩ := wk.go i rs[i] (J'.keep D (.lst us)) H' M' (by simp [lt]) e2.1 dk
    refine .inr ⟨go, fun H2 => ∃ J2 M2 acc2 us2, Ex J1 J2 ∧ DSt K J2 H2 M2 ∧ J2.j D = none ∧ J2.f D = none ∧ M2 D = none ∧ H2 D = some (.lst us2) ∧ RVs K J2 acc2 us2 ∧ acc2.length ≤ i + 1 ∧ Inv (i + 1) acc2 M2, fun H2 q => ⟨_, ?_, rfl, lt, q⟩, fun x H2 y => ?_⟩
    · show rs.length - (i + 1) < rs.length - i
      omega
    obtain ⟨J3, e3, d3, r3⟩ := yl x H2 y
    have rgk : RG K J3 (wipeG g vs) (L2.wipe σ vs) := RG.wipe ⟨rg.1, fun j r z => let ⟨v, q1, q2⟩ := rg1.2 j r z; ⟨v, q1, q2.mj fun a o z => e3.1 a o (e2.1 a o z)⟩⟩ vs
    have nD : ∀ {Jx : Jp} {Hx : Hp} {Mx : MH}, Ex (J'.keep D (.lst us)) Jx → DSt K Jx Hx Mx → Hx D = some (.lst us) ∧ Mx D = none := fun {Jx Hx Mx} e dx => by
      have f1 : Jx.f D = some (.lst us) := by rw [e.2]; exact upd_same
      refine ⟨dx.fr _ _ f1, ?_⟩
      cases q : Mx D with
      | none => rfl
      | some m => have := (dx.no D m q).2; rw [f1] at this; cases this
    refine sg.run J3 H2 σ g M' rs[i] x _ _ d3 rgk r3 (turn i rs[i] acc M' (by simp [lt]) la inv) fun g4 σ4 J4 H4 M4 p4 e4 d4 rg4 w4 => ⟨w4, ?_⟩
    refine ⟨J4, g4, M4, _, noX, d4, rg4, p4, fun b J5 H5 M5 p5 e5 d5 => ?_, noX_cont⟩
    have e35 := (e3.trans e4).trans e5
    cases b with
    | true =>
      refine (if_pos rfl).mpr ?_
      refine ⟨J5, g4, M5, _, noX, d5, rg4.mono e5, p5.1 rfl, fun r v J6 H6 M6 p6 e6 d6 r6 => ?_, noX_cont⟩
      have e36 := e35.trans e6
      obtain ⟨h6, m6⟩ := nD e36 d6
      refine ⟨us, h6, by rw [← ra.len]; omega, ?_⟩
      obtain ⟨e7, d7⟩ := d6.drop (o' := .lst (us ++ [v])) e36 m6 fD
      refine ⟨⟨J6.j, J'.f⟩, M6, acc ++ [r], us ++ [v], e2.trans e7, d7, ?_, fD, m6, upd_same, ?_, by rw [List.length_append, List.length_singleton]; omega, p6⟩
      · exact d6.fj D (.lst us) (by rw [e36.2]; exact upd_same)
      · exact (ra.mj e7.1).app (.cons (RV.mj (J := J6) (J' := ⟨J6.j, J'.f⟩) (fun _ _ z => z) r6) .nil)
    | false =>
      refine (if_neg Bool.false_ne_true).mpr ?_
      obtain ⟨h6, m6⟩ := nD e35 d5
      obtain ⟨e7, d7⟩ := d5.drop (o' := .lst us) e35 m6 fD
      have hu : upd H5 D (.lst us) = H5 := by
        funext b
        by_cases z : b = D
        · rw [z, upd_same, h6]
        · rw [upd_ne z]
      rw [hu] at d7
      exact ⟨⟨J5.j, J'.f⟩, M5, acc, us, e2.trans e7, d7, d5.fj D (.lst us) (by rw [e35.2]; exact upd_same), fD, m6, h6, ra.mj e7.1, by omega, p5.2 rfl⟩
  · have z : i = rs.length := by omega
    subst z
    exact .inl ⟨wk.stop J' H' M' e2.1 d2, fin acc us J' H' M' D (done acc M' la inv) (e1.trans e2) d2 jD fD mD hH ra⟩
/-- the tests of a comprehension -/
structure DTs (X : Cx) (ifs : List Expr) (w : WT) : Prop where
  pt : PTs X ifs (encT X.K W0 w)
def wYes : WT := fun _ M P _ => P true M
theorem dts_nil : DTs X [] wYes := ⟨⟨fun pins s σ H Q I ⟨J, g, M, P, xw, d, rg, hw, c, cx⟩ => pts_nil.run pins s σ H Q I (c true J H M hw Ex.rfl' d)⟩⟩
theorem dts_one {e : Expr} {w : WT} (h : DT X W0 e w) : DTs X [e] w := ⟨pts_one h.pt⟩
abbrev BX (X : Cx) (scope : Scope) (s : Shared) (H : Hp) (C : Addr) (cl : List (Str × Addr)) (fp : List Addr) : Cx := X.blk s H scope (compEnvC scope cl C X.env) fp
theorem pe_lcD {elt tg iter : Expr} {ifs : List Expr} {scope : Scope} {own : List (Str × Nat)} {wi : TI} {t : TG} {wt : WT} {we : WE} (hc : X.calm = true) (hN : X.N.Nodup) (hi : PI X tg iter wi) (ok : BlkOk X.N X.env.scope scope own)
    (hg : ∀ (s : Shared) (H : Hp) (C : Addr) (cl : List (Str × Addr)) (fp : List Addr), PG (BX X scope s H C cl fp) tg t) (ht : ∀ (s : Shared) (H : Hp) (C : Addr) (cl : List (Str × Addr)) (fp : List Addr), DTs (BX X scope s H C cl fp) ifs wt)
    (he : ∀ (s : Shared) (H : Hp) (C : Addr) (cl : List (Str × Addr)) (fp : List Addr), DE (BX X scope s H C cl fp) W0 elt we) (hs : ∀ x, foldedSetIterable iter X.env x = pure x) :
    PE X (.ListComp elt [⟨tg, iter, ifs, 0⟩] scope pos) (tLc wi t (encT X.K W0 wt) (encE X.K W0 we) (own.map (·.2))) :=
  pe_lc hc hN hi ok hg (fun s H C cl fp => (ht s H C cl fp).pt) (fun s H C cl fp => (he s H C cl fp).pe) hs
theorem simLc {K : PySem.W.Frag} {ti : TI} {wi : WI} {t : TG} {wg : WG} {wt : WT} {we : WE} {vs : List Nat} (si : SimI K W ti wi) (sg : SimC K vs t wg) : Sim K W (tLc ti t (encT K W0 wt) (encE K W0 we) vs) (wLc wi wg wt we vs) := by
  refine fun J H σ g M P xw Q d rg h c cx => sim_lc (Fin := fun acc M' => P (.lst acc) M') si sg d rg h cx fun acc us J' H' M' D q e d' jD fD mD hH ra => ?_
  have d2 : DSt K (J'.put D (.lst us)) H' M' := by
    refine ⟨fun a o z => ?_, d'.fr, fun a o z => ?_, fun a m z => ?_, fun a m z => (d'.mo a m z).mono (Ex.new jD) rfl⟩
    · have z' : upd J'.j D (.lst us) a = some o := z
      by_cases w : a = D
      · rw [w, upd_same] at z'; rw [w, hH, z']
      · rw [upd_ne w] at z'; exact d'.ex _ _ z'
    · show upd J'.j D (.lst us) a = none
      rw [upd_ne (ne_of_none z fD)]; exact d'.fj _ _ z
    · have n : a ≠ D := fun w => by rw [w, mD] at z; cases z
      show upd J'.j D (.lst us) a = none ∧ _
      rw [upd_ne n]; exact d'.no a m z
  exact c (.lst acc) (.ref D) _ H' M' q (e.trans (Ex.new jD)) d2 (.lst upd_same (ra.mono (Ex.new jD)))
theorem simLcO {K : PySem.W.Frag} {ti : TI} {wi : WI} {t : TG} {wg : WG} {wt : WT} {we : WE} {vs : List Nat} (si : SimI K W ti wi) (sg : SimC K vs t wg) : Sim K W (tLc ti t (encT K W0 wt) (encE K W0 we) vs) (wLcO wi wg wt we vs) := by
  refine fun J H σ g M P xw Q d rg h c cx => sim_lc (Fin := fun acc M' => ∀ a, M' a = none → P (.o a) (updM M' a (.lst acc))) si sg d rg h cx fun acc us J' H' M' D q e d' jD fD mD hH ra => ?_
  have d2 : DSt K J' H' (updM M' D (.lst acc)) := by
    refine ⟨d'.ex, d'.fr, d'.fj, fun a m z => ?_, fun a m z => ?_⟩
    · by_cases w : a = D
      · rw [w]; exact ⟨jD, fD⟩
      · rw [updM_ne w] at z; exact d'.no a m z
    · by_cases w : a = D
      · rw [w, updM_same] at z; cases z; rw [w]; exact ⟨us, hH, ra⟩
      · rw [updM_ne w] at z; exact d'.mo a m z
  exact c (.o D) (.ref D) _ H' _ (q D mD) e d2 (.o D)
theorem de_lc {elt tg iter : Expr} {ifs : List Expr} {scope : Scope} {own : List (Str × Nat)} {wi : WI} {t : TG} {wg : WG} {wt : WT} {we : WE} (hc : X.calm = true) (hN : X.N.Nodup) (hi : DI X W tg iter wi) (ok : BlkOk X.N X.env.scope scope own)
    (sg : SimC X.K (own.map (·.2)) t wg) (hg : ∀ (s : Shared) (H : Hp) (C : Addr) (cl : List (Str × Addr)) (fp : List Addr), PG (BX X scope s H C cl fp) tg t) (ht : ∀ (s : Shared) (H : Hp) (C : Addr) (cl : List (Str × Addr)) (fp : List Addr), DTs (BX X scope s H C cl fp) ifs wt)
    (he : ∀ (s : Shared) (H : Hp) (C : Addr) (cl : List (Str × Addr)) (fp : List Addr), DE (BX X scope s H C cl fp) W0 elt we) (hs : ∀ x, foldedSetIterable iter X.env x = pure x := by intro _; rfl) :
    DE X W (.ListComp elt [⟨tg, iter, ifs, 0⟩] scope pos) (wLc wi wg wt we (own.map (·.2))) := by
  obtain ⟨ti, pi, si⟩ := hi
  exact ⟨_, pe_lcD hc hN pi ok hg ht he hs, simLc si sg⟩
theorem de_lcO {elt tg iter : Expr} {ifs : List Expr} {scope : Scope} {own : List (Str × Nat)} {wi : WI} {t : TG} {wg : WG} {wt : WT} {we : WE} (hc : X.calm = true) (hN : X.N.Nodup) (hi : DI X W tg iter wi) (ok : BlkOk X.N X.env.scope scope own)
    (sg : SimC X.K (own.map (·.2)) t wg) (hg : ∀ (s : Shared) (H : Hp) (C : Addr) (cl : List (Str × Addr)) (fp : List Addr), PG (BX X scope s H C cl fp) tg t) (ht : ∀ (s : Shared) (H : Hp) (C : Addr) (cl : List (Str × Addr)) (fp : List Addr), DTs (BX X scope s H C cl fp) ifs wt)
    (he : ∀ (s : Shared) (H : Hp) (C : Addr) (cl : List (Str × Addr)) (fp : List Addr), DE (BX X scope s H C cl fp) W0 elt we) (hs : ∀ x, foldedSetIterable iter X.env x = pure x := by intro _; rfl) :
    DE X W (.ListComp elt [⟨tg, iter, ifs, 0⟩] scope pos) (wLcO wi wg wt we (own.map (·.2))) := by
  obtain ⟨ti, pi, si⟩ := hi
  exact ⟨_, pe_lcD hc hN pi ok hg ht he hs, simLcO si sg⟩
theorem simAsgL {K : PySem.W.Frag} {te : TE} {w : WE} {i : Nat} (s : Sim K W te w) : SimS K W (tAsg te (gName i)) (sAsg w (gSet i)) := fun J H σ g M D E d rg h c =>
  s J H σ g M _ _ _ d rg h (fun r v J1 H1 M1 p1 e1 d1 r1 => c.nx _ _ J1 H1 M1 p1 e1 d1 ((rg.mono e1).set i r1)) (c.x rg)
/-- name = [..], the name a local -/
theorem ds_setLc {i : Nat} {y : Str} {py spos : Pos} {elt tg iter : Expr} {ifs : List Expr} {scope : Scope} {own : List (Str × Nat)} {wi : WI} {t : TG} {wg : WG} {wt : WT} {we : WE} (hc : X.calm = true) (hN : X.N.Nodup) (hi : DI X W tg iter wi) (ok : BlkOk X.N X.env.scope scope own)
    (sg : SimC X.K (own.map (·.2)) t wg) (hg : ∀ (s : Shared) (H : Hp) (C : Addr) (cl : List (Str × Addr)) (fp : List Addr), PG (BX X scope s H C cl fp) tg t) (ht : ∀ (s : Shared) (H : Hp) (C : Addr) (cl : List (Str × Addr)) (fp : List Addr), DTs (BX X scope s H C cl fp) ifs wt)
    (he : ∀ (s : Shared) (H : Hp) (C : Addr) (cl : List (Str × Addr)) (fp : List Addr), DE (BX X scope s H C cl fp) W0 elt we) (hy : X.N[i]? = some y := by rfl) (hyl : X.env.scope.names.lookup y = some .local := by rfl)
    (hsw : swapsWith (.ListComp elt [⟨tg, iter, ifs, 0⟩] scope pos) (some (.Name y py)) spos.line X.env = pure true := by exact sw_true rfl rfl rfl (by decide +kernel)) (hs : ∀ x, foldedSetIterable iter X.env x = pure x := by intro _; rfl) :
    DS X W (.Assign [.Name y py] (.ListComp elt [⟨tg, iter, ifs, 0⟩] scope pos) spos) (sAsg (wLc wi wg wt we (own.map (·.2))) (gSet i)) := by
  obtain ⟨ti, pi, si⟩ := hi
  exact ⟨_, ps_setLc hc hN hy hyl hsw pi ok hg (fun s H C cl fp => (ht s H C cl fp).pt) (fun s H C cl fp => (he s H C cl fp).pe) hs, simAsgL (simLc si sg)⟩
end
end DL
set_option Elab.async false
set_option linter.all false
set_option maxRecDepth 100000
set_option maxHeartbeats 2000000
namespace DL
open PySem PySem.Spec L2
open PyProof.Rows hiding St
abbrev DC := List R → MH → DP → Prop
def SimCall (K : PySem.W.Frag) (r : List V → Hp → VK → Prop) (f : DC) : Prop := ∀ (J : Jp) (H : Hp) (M : MH) (rs : List R) (vs : List V) (P : DP) (Q : VK), DSt K J H M → RVs K J rs vs → f rs M P → Cont K J P Q → r vs H Q
section
variable {X : Cx} {W : WW} {pos : Pos}
def wB (f : DC) (wa : WA) : WE := fun g M P xw => wa g M (fun rs M1 => f rs M1 P) xw
theorem sim_B {K : PySem.W.Frag} {n : Nat} {r : List V → Hp → VK → Prop} {f : DC} {ta : TA} {wa : WA} (sc : SimCall K r f) (sa : SimA K W n ta wa) : Sim K W (tCB r ta) (wB f wa) := fun J H σ g M P xw Q d rg h c cx =>
  sa J H σ g M _ xw _ d rg h (fun rs vs J1 H1 M1 p1 l1 e1 d1 r1 => sc J1 H1 M1 rs vs P Q d1 r1 p1 (c.mono e1)) cx
theorem de_callB {id : String} {x : Str} {p : Pos} {e : Expr} {es : List Expr} {r : List V → Hp → VK → Prop} {f : DC} {wa : WA} (hc : CallR X (.builtin id) r) (sc : SimCall X.K r f) (hm : X.mg x = none) (ha : DA X W (e :: es) wa) (hv : bootBuiltins x = some (.builtin id) := by decide +kernel) (hg : Gl X x := by rfl)
    (hn : x ≠ "__name__" := by decide) (hdb : (x == ("__debug__" : Str)) = false := by decide) (he : starEach (e :: es) X.env = (false, eval e X.env) :: starEach es X.env := by rfl) (hpl : (backTo pos (starEach es X.env)).any (·.1) = false := by rfl) :
    DE X W (.Call (.Name x p) (e :: es) [] pos) (wB f wa) := by
  obtain ⟨ta, pa, sa⟩ := ha
  exact ⟨_, pe_callB hc hg hm hv pa hn hdb he hpl, sim_B sc sa⟩
theorem de_callTy {T : String} {x : Str} {p : Pos} {e : Expr} {es : List Expr} {r : List V → Hp → VK → Prop} {f : DC} {wa : WA} (hc : CallR X (.type T) r) (sc : SimCall X.K r f) (hm : X.mg x = none) (ha : DA X W (e :: es) wa) (hv : bootBuiltins x = some (.type T) := by decide +kernel) (hg : Gl X x := by rfl)
    (hn : x ≠ "__name__" := by decide) (hdb : (x == ("__debug__" : Str)) = false := by decide) (he : starEach (e :: es) X.env = (false, eval e X.env) :: starEach es X.env := by rfl) (hpl : (backTo pos (starEach es X.env)).any (·.1) = false := by rfl) :
    DE X W (.Call (.Name x p) (e :: es) [] pos) (wB f wa) := by
  obtain ⟨ta, pa, sa⟩ := ha
  exact ⟨_, pe_callTy hc hg hm hv pa hn hdb he hpl, sim_B sc sa⟩
/-- a built-in class as a value -/
theorem de_ty (t : Ty) {x : Str} (hm : X.mg x = none) (hv : bootBuiltins x = some (.type t.nm) := by decide +kernel) (hg : Gl X x := by rfl) (hn : x ≠ "__name__" := by decide) (hd : (x == ("__debug__" : Str)) = false := by decide) : DE X W (.Name x pos) (wC (.ty t)) :=
  ⟨_, pe_bltn (v := .ty t.nm) hg hm hv rfl hn hd, fun J H _ _ M _ _ _ d _ h c _ => c (.ty t) _ J H M h Ex.rfl' d (.ty t)⟩
end
section
variable {K : PySem.W.Frag}
theorem one_of {J : Jp} {r : R} {vs : List V} (h : RVs K J [r] vs) : ∃ v, vs = [v] ∧ RV K J r v := by
  cases h with
  | cons a t => cases t; exact ⟨_, rfl, a⟩
theorem pair_of {J : Jp} {r q : R} {vs : List V} (h : RVs K J [r, q] vs) : ∃ v u, vs = [v, u] ∧ RV K J r v ∧ RV K J q u := by
  cases h with
  | cons a t =>
    cases t with
    | cons b t => cases t; exact ⟨_, _, rfl, a, b⟩
def rLenU (K : PySem.W.Frag) : List V → Hp → VK → Prop := fun xs H Q => (∃ z, xs = [.str z] ∧ z.length ≤ sizeLine ∧ Q (.int z.length) H) ∨
  ((∃ p ys, xs = [.ref p] ∧ (SqL K H p ys ∨ SqT K H p ys) ∧ Q (.int ys.length) H) ∨ (∃ a kvs, xs = [V.ref a] ∧ H a = some (.dK kvs) ∧ Q (.int kvs.length) H))
theorem call_lenU {X : Cx} : CallR X (.builtin "len") (rLenU X.K) := CallR.or call_len_str (CallR.or call_len_seq call_lenD)
def fLen : DC := fun xs M P => match xs with
  | [.str z] => z.length ≤ sizeLine ∧ P (.int z.length) M
  | [.tup rs] => P (.int rs.length) M
  | [.lst rs] => P (.int rs.length) M
  | [.scr ns] => P (.int ns.length) M
  | [.pt rs] => P (.int rs.length) M
  | [.o a] => (∃ rs, M a = some (.lst rs) ∧ P (.int rs.length) M) ∨ (∃ kvs, M a = some (.dK kvs) ∧ P (.int kvs.length) M)
  | _ => False
theorem sc_len : SimCall K (rLenU K) fLen := by
  intro J H M rs vs P Q d rv h c
  unfold fLen at h
  split at h
  · obtain ⟨v, rfl, r⟩ := one_of rv
    cases r
    exact .inl ⟨_, rfl, h.1, c _ _ J H M h.2 Ex.rfl' d (.int _)⟩
  · obtain ⟨v, rfl, r⟩ := one_of rv
    cases r with
    | tup h1 h2 => exact .inr (.inl ⟨_, _, rfl, .inr (d.ex.sqT h1), by rw [← h2.len]; exact c _ _ J H M h Ex.rfl' d (.int _)⟩)
  · obtain ⟨v, rfl, r⟩ := one_of rv
    cases r with
    | lst h1 h2 => exact .inr (.inl ⟨_, _, rfl, .inl (.inl (.inl (d.ex _ _ h1))), by rw [← h2.len]; exact c _ _ J H M h Ex.rfl' d (.int _)⟩)
  · obtain ⟨v, rfl, r⟩ := one_of rv
    cases r with
    | scr h1 => exact .inr (.inl ⟨_, _, rfl, .inl (d.ex.ls h1).sq, by rw [List.length_map]; exact c _ _ J H M h Ex.rfl' d (.int _)⟩)
  · obtain ⟨v, rfl, r⟩ := one_of rv
    cases r with
    | pt h1 _ h2 => exact .inr (.inl ⟨_, _, rfl, .inr (d.ex.sqT (RV.ptT h1)), by rw [← h2.len]; exact c _ _ J H M h Ex.rfl' d (.int _)⟩)
  · obtain ⟨v, rfl, r⟩ := one_of rv
    cases r
    rcases h with ⟨rs, h1, h2⟩ | ⟨kvs, h1, h2⟩
    · obtain ⟨us, h3, h4⟩ := d.mo _ _ h1
      exact .inr (.inl ⟨_, _, rfl, .inl (.inl (.inl h3)), by rw [← h4.len]; exact c _ _ J H M h2 Ex.rfl' d (.int _)⟩)
    · obtain ⟨us, h3, h4⟩ := d.mo _ _ h1
      exact .inr (.inr ⟨_, _, rfl, h3, by rw [← h4.len]; exact c _ _ J H M h2 Ex.rfl' d (.int _)⟩)
  · exact h.elim
def R.kind : R → Option Ty
  | .non => some .non | .bl _ => some .bl | .int _ => some .int | .str _ => some .str | .tup _ => some .tup | .lst _ => some .lst | .scr _ => some .lst | .pt _ => some .tup | _ => none
def isiB : Ty → Ty → Bool
  | .non, .non => true | .bl, .bl => true | .bl, .int => true | .int, .int => true | .str, .str => true | .tup, .tup => true | .lst, .lst => true | .dic, .dic => true | .ve, .ve => true
  | _, _ => false
theorem isiB_ok : ∀ a b : Ty, b ≠ .non → kitB a.nm b.nm = some (isiB a b) := by
  intro a b h
  cases a <;> cases b <;> first | exact absurd rfl h | decide +kernel
def fIsi : DC := fun xs M P => match xs with
  | [.o a, .ty b] => (∃ rs, M a = some (.lst rs) ∧ P (.bl (isiB .lst b)) M ∧ b ≠ .non) ∨ (∃ kvs, M a = some (.dK kvs) ∧ P (.bl (isiB .dic b)) M ∧ b ≠ .non)
  | [x, .ty b] => match x.kind with
    | some t => P (.bl (isiB t b)) M ∧ b ≠ .non
    | none => False
  | _ => False
theorem ty_of {J : Jp} {H : Hp} {M : MH} {x : R} {v : V} {t : Ty} (d : DSt K J H M) (r : RV K J x v) (h : x.kind = some t) : TyX K H v (.type t.nm) := by
  cases r with
  | non => cases h; exact .base .non
  | bl b => cases h; exact .base (.bl b)
  | int i => cases h; exact .base (.int i)
  | str x => cases h; exact .base (.str x)
  | tup h1 h2 =>
    cases h
    rcases h1 with (h1 | ⟨o, h1⟩) | ⟨o, its, n, h1, h3, _⟩
    · exact .base (.tup (d.ex _ _ h1))
    · exact .fTuple (d.ex _ _ h1)
    · exact .kTuple h1 h3
  | lst h1 h2 => cases h; exact .base (.lst (d.ex _ _ h1))
  | o a => cases h
  | pt h1 _ _ => cases h; exact .fTuple (d.ex _ _ h1)
  | ty n => cases h
  | ex _ _ _ => cases h
  | scr h1 =>
    cases h
    rcases h1 with (h1 | ⟨o, h1⟩) | ⟨its, h1, _⟩
    · exact .base (.lst (d.ex _ _ h1))
    · exact .base (.frz (d.ex _ _ h1))
    · exact .kList h1 rfl
theorem sc_isi : SimCall K (rIsi K) fIsi := by
  intro J H M rs vs P Q d rv h c
  unfold fIsi at h
  split at h
  · obtain ⟨v, u, rfl, r1, r2⟩ := pair_of rv
    cases r1
    cases r2
    rcases h with ⟨rs, h1, h2, h3⟩ | ⟨kvs, h1, h2, h3⟩
    · obtain ⟨us, h4, _⟩ := d.mo _ _ h1
      exact ⟨_, _, _, _, _, rfl, .ty _, .base (.lst h4), kit_ty (isiB_ok .lst _ h3), c _ _ J H M h2 Ex.rfl' d (.bl _)⟩
    · obtain ⟨us, h4, _⟩ := d.mo _ _ h1
      exact ⟨_, _, _, _, _, rfl, .ty _, .base (.dK h4), kit_ty (isiB_ok .dic _ h3), c _ _ J H M h2 Ex.rfl' d (.bl _)⟩
  · obtain ⟨v, u, rfl, r1, r2⟩ := pair_of rv
    cases r2
    split at h
    · rename_i t e
      exact ⟨_, _, _, _, _, rfl, .ty _, ty_of d r1 e, kit_ty (isiB_ok t _ h.2), c _ _ J H M h.1 Ex.rfl' d (.bl _)⟩
    · exact h.elim
  · exact h.elim
def rRepr (K : PySem.W.Frag) : List V → Hp → VK → Prop := fun xs H Q => ∃ a d, xs = [.ref a] ∧ Dp K H (.ref a) d ∧ d.showable = true ∧ d.hasDict = false ∧ d.depth ≤ 50 ∧ d.shown.length ≤ sizeLine ∧ Q (.str d.shown) H
theorem call_reprU {X : Cx} {k : Nat} (hr : RoomG k X.A) : CallR X (.builtin "repr") (rRepr X.K) := by
  intro pins s σ H xs us Q I rv h
  obtain ⟨a, d, rfl, hd, h1, h2, h3, h4, q⟩ := h
  obtain ⟨u, rfl, r⟩ := vals1 rv
  cases r
  obtain ⟨as, rd⟩ := Dp.reads I d _ _ hd rfl
  have hu := hr.hu
  refine repr_of_reads' rd h1 (fun z => by rw [h2] at z; cases z) hr.g (by omega) (fun _ _ z => z) (fun h' u tk hk => ?_) h4
  exact ⟨.str _, H, I.kept (h' := h') (t' := tk) hk, ⟨_, rfl⟩, q⟩
def fRepr : DC := fun xs M P => match xs with
  | [x] => ∃ d, PyOf M x d ∧ d.showable = true ∧ d.hasDict = false ∧ d.depth ≤ 50 ∧ d.shown.length ≤ sizeLine ∧ (∃ rs, x = .tup rs ∨ x = .lst rs ∨ ∃ a, x = .o a) ∧ P (.str d.shown) M
  | _ => False
theorem sc_repr : SimCall K (rRepr K) fRepr := by
  intro J H M rs vs P Q d rv h c
  unfold fRepr at h
  split at h
  · obtain ⟨v, rfl, r⟩ := one_of rv
    obtain ⟨dd, h1, h2, h3, h4, h5, h6, h7⟩ := h
    have e : ∃ a, v = .ref a := by
      obtain ⟨rs, h6 | h6 | ⟨a, h6⟩⟩ := h6 <;> subst h6 <;> cases r <;> exact ⟨_, rfl⟩
    obtain ⟨a, rfl⟩ := e
    exact ⟨a, dd, rfl, h1.dp d r, h2, h3, h4, h5, c _ _ J H M h7 Ex.rfl' d (.str _)⟩
  · exact h.elim
theorem bls_v {J : Jp} : ∀ {bs : List Bool} {vs : List V}, RVs K J (bs.map R.bl) vs → vs = bs.map V.bl
  | [], _, .nil => rfl
  | b :: bs, _, .cons h t => by cases h; rw [bls_v t]; rfl
theorem strs_v {J : Jp} : ∀ {bs : List Str} {vs : List V}, RVs K J (bs.map R.str) vs → vs = bs.map V.str
  | [], _, .nil => rfl
  | b :: bs, _, .cons h t => by cases h; rw [strs_v t]; rfl
def fAll : DC := fun xs M P => match xs with
  | [x] => ∃ bs : List Bool, LsOf M x (bs.map R.bl) ∧ P (.bl (bs.all id)) M
  | _ => False
theorem sc_all : SimCall K (rAll K) fAll := by
  intro J H M rs vs P Q d rv h c
  unfold fAll at h
  split at h
  · obtain ⟨v, rfl, r⟩ := one_of rv
    obtain ⟨bs, h1, h2⟩ := h
    obtain ⟨a, us, rfl, l, r2⟩ := h1.get d r
    rw [bls_v r2] at l
    exact ⟨a, bs, rfl, l.sq, c _ _ J H M h2 Ex.rfl' d (.bl _)⟩
  · exact h.elim
def rIntU : List V → Hp → VK → Prop := fun xs H Q => ((∃ i, xs = [.int i] ∧ Q (.int i) H) ∨ ∃ k, xs = [.bl k] ∧ Q (.int (if k then 1 else 0)) H) ∨ ∃ a n, xs = [.str a] ∧ PySem.intText? a = some n ∧ a.length ≤ 640 ∧ Q (.int n) H
theorem call_intU {X : Cx} : CallR X (.type "int") rIntU := CallR.or call_int1 call_int_str
def fInt : DC := fun xs M P => match xs with
  | [.int i] => P (.int i) M
  | [.bl b] => P (.int (if b then 1 else 0)) M
  | [.str a] => ∃ n, PySem.intText? a = some n ∧ a.length ≤ 640 ∧ P (.int n) M
  | _ => False
theorem sc_int : SimCall K rIntU fInt := by
  intro J H M rs vs P Q d rv h c
  unfold fInt at h
  split at h
  · obtain ⟨v, rfl, r⟩ := one_of rv
    cases r
    exact .inl (.inl ⟨_, rfl, c _ _ J H M h Ex.rfl' d (.int _)⟩)
  · obtain ⟨v, rfl, r⟩ := one_of rv
    cases r
    exact .inl (.inr ⟨_, rfl, c _ _ J H M h Ex.rfl' d (.int _)⟩)
  · obtain ⟨v, rfl, r⟩ := one_of rv
    cases r
    obtain ⟨n, h1, h2, h3⟩ := h
    exact .inr ⟨_, n, rfl, h1, h2, c _ _ J H M h3 Ex.rfl' d (.int _)⟩
  · exact h.elim
def rTupC (K : PySem.W.Frag) : List V → Hp → VK → Prop := fun xs H Q => ∃ p ys, xs = [.ref p] ∧ ((SqL K H p ys ∧ ∀ l, H l = none → Q (.ref l) (upd H l (.tup ys))) ∨ (SqT K H p ys ∧ Q (.ref p) H))
theorem call_tupU {X : Cx} : CallR X (.type "tuple") (rTupC X.K) := call_tuple_of
def fTup : DC := fun xs M P => match xs with
  | [.tup rs] => P (.tup rs) M
  | [x] => ∃ rs, LsOf M x rs ∧ P (.tup rs) M
  | _ => False
theorem sc_tup : SimCall K (rTupC K) fTup := by
  intro J H M rs vs P Q d rv h c
  unfold fTup at h
  split at h
  · obtain ⟨v, rfl, r⟩ := one_of rv
    cases r with
    | tup h1 h2 => exact ⟨_, _, rfl, .inr ⟨d.ex.sqT h1, c _ _ J H M h Ex.rfl' d (.tup h1 h2)⟩⟩
  · obtain ⟨v, rfl, r⟩ := one_of rv
    obtain ⟨qs, h1, h2⟩ := h
    obtain ⟨a, us, rfl, l, r2⟩ := h1.get d r
    exact ⟨_, _, rfl, .inl ⟨l.sq, newT d c h2 r2⟩⟩
  · exact h.elim
def rLstC (K : PySem.W.Frag) : List V → Hp → VK → Prop := fun xs H Q => ∃ p ys, xs = [.ref p] ∧ (SqL K H p ys ∨ SqT K H p ys) ∧ ∀ l, H l = none → Q (.ref l) (upd H l (.lst ys))
theorem call_lstU {X : Cx} : CallR X (.type "list") (rLstC X.K) := call_list_of
def SqOf (M : MH) (x : R) (rs : List R) : Prop := match x with
  | .tup rs' => rs' = rs
  | x => LsOf M x rs
theorem SqOf.get {J : Jp} {H : Hp} {M : MH} {x : R} {v : V} {rs : List R} (d : DSt K J H M) (r : RV K J x v) (h : SqOf M x rs) : ∃ a vs, v = .ref a ∧ (SqL K H a vs ∨ SqT K H a vs) ∧ RVs K J rs vs := by
  unfold SqOf at h
  split at h
  · subst h
    cases r with
    | tup h1 h2 => exact ⟨_, _, rfl, .inr (d.ex.sqT h1), h2⟩
  · obtain ⟨a, vs, h1, h2, h3⟩ := LsOf.get d r h
    exact ⟨a, vs, h1, .inl h2.sq, h3⟩
def fLst : DC := fun xs M P => match xs with
  | [x] => ∃ rs, SqOf M x rs ∧ P (.lst rs) M
  | _ => False
theorem sc_lst : SimCall K (rLstC K) fLst := by
  intro J H M rs vs P Q d rv h c
  unfold fLst at h
  split at h
  · obtain ⟨v, rfl, r⟩ := one_of rv
    obtain ⟨qs, h1, h2⟩ := h
    obtain ⟨a, us, rfl, l, r2⟩ := h1.get d r
    exact ⟨_, _, rfl, l, newL d c h2 r2⟩
  · exact h.elim
def rMx : List V → Hp → VK → Prop := fun xs H Q => ∃ i j : Int, xs = [.int i, .int j] ∧ Q (.int (if j > i then j else i)) H
def rMn : List V → Hp → VK → Prop := fun xs H Q => ∃ i j : Int, xs = [.int i, .int j] ∧ Q (.int (if j < i then j else i)) H
theorem call_mx {X : Cx} (hc : X.calm = true) : CallR X (.builtin "max") rMx := call_max2 hc
theorem call_mn {X : Cx} (hc : X.calm = true) : CallR X (.builtin "min") rMn := call_min2 hc
def fMx : DC := fun xs M P => match xs with
  | [.int i, .int j] => P (.int (max i j)) M
  | _ => False
def fMn : DC := fun xs M P => match xs with
  | [.int i, .int j] => P (.int (min i j)) M
  | _ => False
theorem sc_mx : SimCall K rMx fMx := by
  intro J H M rs vs P Q d rv h c
  unfold fMx at h
  split at h
  · obtain ⟨v, u, rfl, r1, r2⟩ := pair_of rv
    cases r1; cases r2
    rename_i i j
    refine ⟨i, j, rfl, ?_⟩
    have e : (if j > i then j else i) = max i j := by split <;> omega
    rw [e]
    exact c _ _ J H M h Ex.rfl' d (.int _)
  · exact h.elim
theorem sc_mn : SimCall K rMn fMn := by
  intro J H M rs vs P Q d rv h c
  unfold fMn at h
  split at h
  · obtain ⟨v, u, rfl, r1, r2⟩ := pair_of rv
    cases r1; cases r2
    rename_i i j
    refine ⟨i, j, rfl, ?_⟩
    have e : (if j < i then j else i) = min i j := by split <;> omega
    rw [e]
    exact c _ _ J H M h Ex.rfl' d (.int _)
  · exact h.elim
end
end DL
set_option Elab.async false
set_option linter.all false
set_option maxRecDepth 100000
set_option maxHeartbeats 2000000
namespace DL
open PySem PySem.Spec L2
open PyProof.Rows hiding St
def cutR (xs : List R) (lo hi : Option Int) : List R := (xs.drop (HT.sIx xs.length 0 lo)).take (HT.sIx xs.length xs.length hi - HT.sIx xs.length 0 lo)
theorem cutR_rv {K : PySem.W.Frag} {J : Jp} {rs : List R} {vs : List V} (h : RVs K J rs vs) (lo hi : Option Int) : RVs K J (cutR rs lo hi) (cutV vs lo hi) := by
  unfold cutR cutV
  rw [h.len]
  exact (h.drop _).take _
abbrev WO := G → MH → (Option Int → MH → Prop) → DX → Prop
def SimO (K : PySem.W.Frag) (W : WW) (to : TO) (w : WO) : Prop := ∀ (J : Jp) (H : Hp) (σ : L2.St) (g : G) (M : MH) (P : Option Int → MH → Prop) (xw : DX) (Q : Option Int → Hp → Prop), DSt K J H M → RG K J g σ → w g M P xw →
  (∀ o J' H' M', P o M' → Ex J J' → DSt K J' H' M' → Q o H') → ContX K J xw (fun c d H => W c d σ H) → to σ H Q
structure DO (X : Cx) (W : WW) (e : Option Expr) (w : WO) : Prop where
  ex : ∃ t, PO X e t ∧ SimO X.K W t w
def rSlU (K : PySem.W.Frag) : V → Option Int → Option Int → Hp → VK → Prop := fun x lo hi H Q => rSlA K x lo hi H Q ∨ (rSlL K x lo hi H Q ∨ rSlS x lo hi H Q)
section
variable {X : Cx} {W : WW} {pos : Pos}
theorem sl_U : SlR X (rSlU X.K) := SlR.or sl_tupA (SlR.or sl_list sl_str)
def wPart (w : WE) : WO := fun g M P xw => w g M (fun r M1 => match r with
  | .int i => P (some i) M1
  | _ => False) xw
def wNoPart : WO := fun _ M P _ => P none M
theorem do_none : DO X W none wNoPart := ⟨_, po_none, fun J H _ _ M _ _ _ d _ h c _ => c none J H M h Ex.rfl' d⟩
theorem do_some {e : Expr} {w : WE} (h : DE X W e w) : DO X W (some e) (wPart w) := by
  obtain ⟨te, pe, s⟩ := h
  refine ⟨_, po_some pe, fun J H σ g M P xw Q d rg h c cx => s J H σ g M _ xw _ d rg h (fun r v J1 H1 M1 p1 e1 d1 r1 => ?_) cx⟩
  split at p1
  · cases r1; exact ⟨_, rfl, c _ J1 H1 M1 p1 e1 d1⟩
  · exact p1.elim
def dSl : R → Option Int → Option Int → MH → DP → Prop := fun x lo hi M P => match x with
  | .tup rs => P (.tup (cutR rs lo hi)) M
  | .str z => z.length ≤ sizeLine ∧ P (.str (cutS z lo hi)) M
  | x => ∃ rs, LsOf M x rs ∧ P (.lst (cutR rs lo hi)) M
def wSl (we : WE) (wl wh : WO) : WE := fun g M P xw => we g M (fun x M1 => wl g M1 (fun lo M2 => wh g M2 (fun hi M3 => dSl x lo hi M3 P) xw) xw) xw
theorem cutR_whole {rs : List R} {lo hi : Option Int} (h : HT.sIx rs.length 0 lo = 0 ∧ HT.sIx rs.length rs.length hi = rs.length) : cutR rs lo hi = rs := by
  unfold cutR
  rw [h.1, h.2, List.drop_zero, Nat.sub_zero, List.take_length]
theorem de_slice {e : Expr} {lo hi : Option Expr} {p2 : Pos} {we : WE} {wl wh : WO} (he : DE X W e we) (hl : DO X W lo wl) (hh : DO X W hi wh) : DE X W (.Subscript e (.Slice lo hi none p2) pos) (wSl we wl wh) := by
  obtain ⟨te, pe, se⟩ := he
  obtain ⟨tl, pl, sl⟩ := hl
  obtain ⟨th, ph, sh⟩ := hh
  refine ⟨_, pe_slice sl_U pe pl ph, fun J H σ g M P xw Q d rg h c cx => se J H σ g M _ xw _ d rg h (fun x v J1 H1 M1 p1 e1 d1 r1 => ?_) cx⟩
  refine sl J1 H1 σ g M1 _ xw _ d1 (rg.mono e1) p1 (fun a J2 H2 M2 p2 e2 d2 => ?_) (cx.mono e1)
  refine sh J2 H2 σ g M2 _ xw _ d2 ((rg.mono e1).mono e2) p2 (fun b J3 H3 M3 p3 e3 d3 => ?_) ((cx.mono e1).mono e2)
  have r3 := (r1.mono e2).mono e3
  have c3 := ((c.mono e1).mono e2).mono e3
  unfold dSl at p3
  split at p3
  · cases r3 with
    | tup h1 h2 =>
      refine .inl ⟨_, _, rfl, d3.ex.sqT h1, fun w => ?_, fun _ => newT d3 c3 p3 (cutR_rv h2 a b)⟩
      rw [← h2.len] at w
      rw [cutR_whole w] at p3
      exact c3 _ _ J3 H3 M3 p3 Ex.rfl' d3 (.tup h1 h2)
  · cases r3
    exact .inr (.inr ⟨_, rfl, p3.1, c3 _ _ J3 H3 M3 p3.2 Ex.rfl' d3 (.str _)⟩)
  · obtain ⟨rs, h1, h2⟩ := p3
    obtain ⟨q, vs, rfl, l, r⟩ := h1.get d3 r3
    exact .inr (.inl ⟨_, _, rfl, l.sq, newL d3 c3 h2 (cutR_rv r a b)⟩)
def keyOf : R → Option Key
  | .int i => some (.inl i)
  | .str x => some (.inr x)
  | _ => none
theorem keyOf_rv {K : PySem.W.Frag} {J : Jp} {r : R} {v : V} {k : Key} (h : RV K J r v) (e : keyOf r = some k) : v = kV k := by
  cases h <;> cases e <;> rfl
def dGet : D2 := fun x y M P => match x, keyOf y with
  | .o a, some k => ∃ kvs r, M a = some (.dK kvs) ∧ valR kvs k = some r ∧ P r M
  | _, _ => False
theorem de_dget {o i : Expr} {wo wi : WE} (hu : X.A.units + 64 < cLine) (ho : DE X W o wo) (hi : DE X W i wi) (hs : NoSl i := by exact fun _ _ => rfl) : DE X W (.Subscript o i pos) (wOp dGet wo wi) := by
  obtain ⟨to, po, so⟩ := ho
  obtain ⟨ti, pi, si⟩ := hi
  refine ⟨_, pe_dget (by omega) po pi hs, fun J H σ g M P xw Q d rg h c cx => so J H σ g M _ xw _ d rg h (fun x v J1 H1 M1 p1 e1 d1 r1 => ?_) cx⟩
  refine si J1 H1 σ g M1 _ xw _ d1 (rg.mono e1) p1 (fun y u J2 H2 M2 p2 e2 d2 r2 => ?_) (cx.mono e1)
  unfold dGet at p2
  split at p2
  · rename_i k ek
    cases r1
    obtain ⟨kvs, r, h1, h2, h3⟩ := p2
    obtain ⟨ws, h4, h5⟩ := d2.mo _ _ h1
    obtain ⟨w, h6, h7⟩ := h5.val_some h2
    rw [keyOf_rv r2 ek]
    exact ⟨_, w, rfl, h6 ▸ DGet.k h4, c _ _ J2 H2 M2 h3 (e1.trans e2) d2 h7⟩
  · exact p2.elim
/-- d[k] = e -/
def sDPutD (wo wi we : WE) : WS := fun D g M => we g M (fun r M1 => wo g M1 (fun x M2 => wi g M2 (fun y M3 => match x, keyOf y with
  | .o a, some k => ∃ kvs, M3 a = some (.dK kvs) ∧ kvs.length < sizeLine ∧ D.nx g (updM M3 a (.dK (putR kvs k r)))
  | _, _ => False) (fun c f M' => D.xc c f g M')) (fun c f M' => D.xc c f g M')) (fun c f M' => D.xc c f g M')
theorem ds_dput {o i e : Expr} {p' : Pos} {wo wi we : WE} (hu : X.A.units + 64 < cLine) (ho : DE X W o wo) (hi : DE X W i wi) (he : DE X W e we) (hs : swapsWith e (some (.Subscript o i p')) pos.line X.env = pure false := by rfl) : DS X W (.Assign [.Subscript o i p'] e pos) (sDPutD wo wi we) := by
  obtain ⟨to, po, so⟩ := ho
  obtain ⟨ti, pi, si⟩ := hi
  obtain ⟨te, pe, se⟩ := he
  refine ⟨_, ps_dput (by omega) po pi pe hs, fun J H σ g M D E d rg h c => se J H σ g M _ _ _ d rg h (fun r v J1 H1 M1 p1 e1 d1 r1 => ?_) (c.x rg)⟩
  refine so J1 H1 σ g M1 _ _ _ d1 (rg.mono e1) p1 (fun x u J2 H2 M2 p2 e2 d2 r2 => ?_) ((c.mono e1).x (rg.mono e1))
  refine si J2 H2 σ g M2 _ _ _ d2 ((rg.mono e1).mono e2) p2 (fun y w J3 H3 M3 p3 e3 d3 r3 => ?_) (((c.mono e1).mono e2).x ((rg.mono e1).mono e2))
  split at p3
  · rename_i k ek
    cases r2
    obtain ⟨kvs, h1, h2, h3⟩ := p3
    obtain ⟨ws, h4, h5⟩ := d3.mo _ _ h1
    rw [keyOf_rv r3 ek]
    have e13 := (e1.trans e2).trans e3
    refine ⟨_, _, rfl, DPut.k h4 (by rw [← h5.len]; exact h2), c.nx g σ J3 _ _ h3 e13 (d3.put h1 ⟨_, upd_same, h5.put ((r1.mono e2).mono e3)⟩) (rg.mono e13)⟩
  · exact p3.elim
/-- {k: v, ..} -/
abbrev WP := G → MH → (List (Key × R) → MH → Prop) → DX → Prop
structure DPs (X : Cx) (W : WW) (pos : Pos) (keys : List (Option Expr)) (values : List Expr) (w : WP) : Prop where
  ex : ∃ trs, PPs X pos keys values trs ∧ ∀ (J : Jp) (H : Hp) (σ : L2.St) (g : G) (M : MH) (P : List (Key × R) → MH → Prop) (xw : DX) (Q : List (V × V) → Hp → Prop), DSt X.K J H M → RG X.K J g σ → w g M P xw →
    (∀ kvs ws J' H' M', P kvs M' → kvs.length = keys.length → Ex J J' → DSt X.K J' H' M' → KRV X.K J' kvs ws → Q (ws.map fun kv => (kV kv.1, kv.2)) H') → ContX X.K J xw (fun c d H => W c d σ H) → tPairs trs σ H Q
def wpNil : WP := fun _ M P _ => P [] M
def wpCons (wk wv : WE) (wr : WP) : WP := fun g M P xw => wk g M (fun x M1 => wv g M1 (fun r M2 => wr g M2 (fun kvs M3 => match keyOf x with
  | some k => P ((k, r) :: kvs) M3
  | none => False) xw) xw) xw
theorem dps_nil : DPs X W pos [] [] wpNil := ⟨_, pps_nil, fun J H _ _ M P xw Q d _ h c _ => c [] [] J H M h rfl Ex.rfl' d .nil⟩
theorem dps_cons {k v : Expr} {ks : List (Option Expr)} {vs : List Expr} {wk wv : WE} {wr : WP} (hk : DE X W k wk) (hv : DE X W v wv) (hr : DPs X W pos ks vs wr) : DPs X W pos (some k :: ks) (v :: vs) (wpCons wk wv wr) := by
  obtain ⟨tk, pk, sk⟩ := hk
  obtain ⟨tv, pv, sv⟩ := hv
  obtain ⟨tr, pr, sr⟩ := hr
  refine ⟨_, pps_cons pk pv pr, fun J H σ g M P xw Q d rg h c cx => sk J H σ g M _ xw _ d rg h (fun x xv J1 H1 M1 p1 e1 d1 r1 => ?_) cx⟩
  refine sv J1 H1 σ g M1 _ xw _ d1 (rg.mono e1) p1 (fun r rv J2 H2 M2 p2 e2 d2 r2 => ?_) (cx.mono e1)
  refine sr J2 H2 σ g M2 _ xw _ d2 ((rg.mono e1).mono e2) p2 (fun kvs ws J3 H3 M3 p3 l3 e3 d3 r3 => ?_) ((cx.mono e1).mono e2)
  split at p3
  · rename_i q eq
    rw [keyOf_rv r1 eq]
    exact c ((q, r) :: kvs) ((q, rv) :: ws) J3 H3 M3 p3 (by rw [List.length_cons, List.length_cons, l3]) ((e1.trans e2).trans e3) d3 (.cons ⟨rfl, r2.mono e3⟩ r3)
  · exact p3.elim
def mergeR (kvs more : List (Key × R)) : List (Key × R) := more.foldl (fun acc kv => putR acc kv.1 kv.2) kvs
theorem merge_rv {K : PySem.W.Frag} {J : Jp} : ∀ {more : List (Key × R)} {ws : List (Key × V)}, KRV K J more ws → ∀ {kvs : List (Key × R)} {us : List (Key × V)}, KRV K J kvs us → KRV K J (mergeR kvs more) (mergeK us ws)
  | _, _, .nil, _, _, h => h
  | p :: more, q :: ws, .cons e t, kvs, us, h => by
    unfold mergeR mergeK
    rw [List.foldl_cons, List.foldl_cons]
    have e2 : p.1 = q.1 := e.1
    rw [← e2]
    exact merge_rv t (h.put e.2)
def wDisp (w : WP) : WE := fun g M P xw => w g M (fun kvs M1 => ∀ a, M1 a = none → P (.o a) (updM M1 a (.dK (mergeR [] kvs)))) xw
theorem de_disp {keys : List (Option Expr)} {values : List Expr} {w : WP} (h : DPs X W pos keys values w) (hall : keys.all (·.isSome) = true := by rfl) (hl : keys.length = values.length := by rfl) (h0 : keys ≠ [] := by exact fun z => by cases z) (h15 : Nat.ble keys.length 15 = true := by rfl) : DE X W (.Dict keys values pos) (wDisp w) := by
  obtain ⟨trs, pp, s⟩ := h
  have h15' : keys.length ≤ 15 := Nat.le_of_ble_eq_true h15
  refine ⟨_, pe_disp pp hall hl h0 h15', fun J H σ g M P xw Q d rg h c cx => fun p hp => ?_⟩
  have jp := d.jnone hp
  have fp := d.fnone hp
  have mp := d.mnone hp
  have d0 : DSt X.K J (upd H p (.dK [])) M := ⟨fun a o z => by rw [upd_ne (ne_of_none z jp)]; exact d.ex _ _ z, fun a o z => by rw [upd_ne (ne_of_none z fp)]; exact d.fr _ _ z, d.fj, d.no, fun a m z => (d.mo a m z).mono Ex.rfl' (upd_ne (d.mne hp a m z))⟩
  have d1 := d0.keep (o := .dK []) upd_same jp mp
  refine s (J.keep p (.dK [])) _ σ g M _ xw _ d1 ⟨rg.1, fun i r z => let ⟨v, q1, q2⟩ := rg.2 i r z; ⟨v, q1, q2.jf rfl⟩⟩ h (fun kvs ws J2 H2 M2 p2 l2 e2 d2 r2 => ?_) (fun cls fs dd J' H' M' q e d' x => ?_)
  · have f2 : J2.f p = some (.dK []) := by rw [e2.2]; exact upd_same
    have m2 : M2 p = none := by
      cases q : M2 p with
      | none => rfl
      | some m => have := (d2.no p m q).2; rw [f2] at this; cases this
    obtain ⟨e3, d3⟩ := d2.drop (o' := .dK (mergeK [] ws)) e2 m2 fp
    refine ⟨d2.fr _ _ f2, ws, rfl, ?_, ?_⟩
    · have := r2.len; omega
    · refine c (.o p) (.ref p) ⟨J2.j, J.f⟩ _ _ (p2 p m2) e3 ?_ (.o p)
      have hk : KOk X.K ⟨J2.j, J.f⟩ (upd H2 p (.dK (mergeK [] ws))) p (mergeR [] kvs) := ⟨_, upd_same, (merge_rv r2 .nil).jf rfl⟩
      refine ⟨d3.ex, d3.fr, d3.fj, fun a m z => ?_, fun a m z => ?_⟩
      · by_cases w : a = p
        · rw [w]; exact ⟨d2.fj p _ f2, fp⟩
        · rw [updM_ne w] at z; exact d3.no a m z
      · by_cases w : a = p
        · rw [w, updM_same] at z; cases z; rw [w]; exact hk
        · rw [updM_ne w] at z; exact d3.mo a m z
  · have e' : Ex J ⟨J'.j, J.f⟩ := ⟨e.1, rfl⟩
    have f2 : J'.f p = some (.dK []) := by rw [e.2]; exact upd_same
    have m2 : M' p = none := by
      cases z : M' p with
      | none => rfl
      | some m => have := (d'.no p m z).2; rw [f2] at this; cases this
    obtain ⟨e3, d3⟩ := d'.drop (o' := .dK []) e m2 fp
    have hu : upd H' p (.dK []) = H' := by
      funext b
      by_cases z : b = p
      · rw [z, upd_same, d'.fr _ _ f2]
      · rw [upd_ne z]
    rw [hu] at d3
    refine cx cls fs dd ⟨J'.j, J.f⟩ H' M' q e' d3 ?_
    cases dd with
    | none => cases fs with
      | none => trivial
      | some _ => exact x.elim
    | some da => cases fs with
      | none => exact x.elim
      | some ff => obtain ⟨ws, x1, x2⟩ := x; exact ⟨ws, x1, x2.jf rfl⟩
def mApp : R → List R → MH → DP → Prop := fun x ys M P => match x, ys with
  | .o a, [r] => ∃ rs, M a = some (.lst rs) ∧ rs.length < sizeLine ∧ P .non (updM M a (.lst (rs ++ [r])))
  | _, _ => False
/-- the receiver's kind is seen ahead of the arguments -/
def wMethL (f : R → List R → MH → DP → Prop) (wo : WE) (wa : WA) : WE := fun g M P xw => wo g M (fun x M1 => (∃ rs, LsOf M1 x rs) ∧ wa g M1 (fun ys M2 => f x ys M2 P) xw) xw
theorem de_append {o e : Expr} {apos : Pos} {wo : WE} {wa : WA} (ho : DE X W o wo) (ha : DA X W [e] wa) (hbase : attributeBase o "append" X.env (eval o X.env) = eval o X.env := by rfl)
    (hfew : ((backTo pos (starEach [e] X.env)).all (fun x => !x.1) && (backToKw pos (keywordEach [] X.env)).all (fun x => x.1.isSome) && decide (([e] : List Expr).length + ([] : List Keyword).length + (if ([] : List Keyword).isEmpty then 0 else 1) < 30)) = true := by rfl)
    (hline : (apos.endLine == pos.line) = true := by rfl) (hs : starEach [e] X.env = (false, eval e X.env) :: starEach [] X.env := by rfl) (hplain : (backTo pos (starEach [] X.env)).any (·.1) = false := by rfl) :
    DE X W (.Call (.Attribute o "append" apos) [e] [] pos) (wMethL mApp wo wa) := by
  obtain ⟨to, po, so⟩ := ho
  obtain ⟨ta, pa, sa⟩ := ha
  refine ⟨_, pe_bm PySem.F.plainAttrs_list PySem.F.slot_list_append PySem.F.type_list_append mt_append po pa hbase hfew hline hs hplain, fun J H σ g M P xw Q d rg h c cx => so J H σ g M _ xw _ d rg h (fun x v J1 H1 M1 p1 e1 d1 r1 => ?_) cx⟩
  obtain ⟨⟨rs0, p0⟩, p1⟩ := p1
  obtain ⟨q, us, rfl, l, _⟩ := p0.get d1 r1
  refine ⟨.inl ⟨rfl, _, l.sq⟩, sa J1 H1 σ g M1 _ xw _ d1 (rg.mono e1) p1 (fun ys zs J2 H2 M2 p2 l2 e2 d2 r2 => ?_) (cx.mono e1)⟩
  unfold mApp at p2
  split at p2
  · obtain ⟨y, rfl, ry⟩ := one_of r2
    cases r1
    obtain ⟨rs, h1, h2, h3⟩ := p2
    obtain ⟨vs, h4, h5⟩ := d2.mo _ _ h1
    exact ⟨_, _, _, rfl, rfl, h4, by rw [← h5.len]; exact h2, c .non .non J2 _ _ h3 (e1.trans e2) (d2.put h1 ⟨_, upd_same, h5.app (.cons ry .nil)⟩) .non⟩
  · exact p2.elim
def mExt : R → List R → MH → DP → Prop := fun x ys M P => match x, ys with
  | .o a, [y] => ∃ rs qs, M a = some (.lst rs) ∧ LtOf M y qs ∧ rs.length + qs.length ≤ sizeLine ∧ P .non (updM M a (.lst (rs ++ qs)))
  | _, _ => False
theorem de_extend {o e : Expr} {apos : Pos} {wo : WE} {wa : WA} (ho : DE X W o wo) (ha : DA X W [e] wa) (hbase : attributeBase o "extend" X.env (eval o X.env) = eval o X.env := by rfl)
    (hfew : ((backTo pos (starEach [e] X.env)).all (fun x => !x.1) && (backToKw pos (keywordEach [] X.env)).all (fun x => x.1.isSome) && decide (([e] : List Expr).length + ([] : List Keyword).length + (if ([] : List Keyword).isEmpty then 0 else 1) < 30)) = true := by rfl)
    (hline : (apos.endLine == pos.line) = true := by rfl) (hs : starEach [e] X.env = (false, eval e X.env) :: starEach [] X.env := by rfl) (hplain : (backTo pos (starEach [] X.env)).any (·.1) = false := by rfl) :
    DE X W (.Call (.Attribute o "extend" apos) [e] [] pos) (wMethL mExt wo wa) := by
  obtain ⟨to, po, so⟩ := ho
  obtain ⟨ta, pa, sa⟩ := ha
  refine ⟨_, pe_bm PySem.F.plainAttrs_list PySem.F.slot_list_extend PySem.F.type_list_extend mt_extend po pa hbase hfew hline hs hplain, fun J H σ g M P xw Q d rg h c cx => so J H σ g M _ xw _ d rg h (fun x v J1 H1 M1 p1 e1 d1 r1 => ?_) cx⟩
  obtain ⟨⟨rs0, p0⟩, p1⟩ := p1
  obtain ⟨q, us, rfl, l, _⟩ := p0.get d1 r1
  refine ⟨.inl ⟨rfl, _, l.sq⟩, sa J1 H1 σ g M1 _ xw _ d1 (rg.mono e1) p1 (fun ys zs J2 H2 M2 p2 l2 e2 d2 r2 => ?_) (cx.mono e1)⟩
  unfold mExt at p2
  split at p2
  · obtain ⟨y, rfl, ry⟩ := one_of r2
    cases r1
    obtain ⟨rs, qs, h1, h2, h3, h6⟩ := p2
    obtain ⟨vs, h4, h5⟩ := d2.mo _ _ h1
    obtain ⟨b, ws, rfl, hb, hw⟩ := h2.get d2 ry
    exact ⟨_, b, _, _, rfl, rfl, h4, hb, by rw [← h5.len, ← hw.len]; exact h3, c .non .non J2 _ _ h6 (e1.trans e2) (d2.put h1 ⟨_, upd_same, h5.app hw⟩) .non⟩
  · exact p2.elim
def mJoin : R → List R → MH → DP → Prop := fun x ys M P => match x, ys with
  | .str a, [y] => ∃ zs : List Str, SqOf M y (zs.map R.str) ∧ (zs.map (·.length)).sum + zs.length * a.length ≤ 16777216 ∧ P (.str (Txt.join a zs)) M
  | _, _ => False
/-- the receiver is a text -/
def wMethS (f : R → List R → MH → DP → Prop) (wo we : WE) : WE := fun g M P xw => wo g M (fun x M1 => (∃ a, x = .str a) ∧ we g M1 (fun y M2 => f x [y] M2 P) xw) xw
theorem de_join {o e : Expr} {apos : Pos} {wo we : WE} (ho : DE X W o wo) (he : DE X W e we) (hs : starEach [e] X.env = [(false, eval e X.env)] := by rfl) (hbase : attributeBase o "join" X.env (eval o X.env) = eval o X.env := by rfl) (hline : (apos.endLine == pos.line) = true := by rfl) :
    DE X W (.Call (.Attribute o "join" apos) [e] [] pos) (wMethS mJoin wo we) := by
  obtain ⟨to, po, so⟩ := ho
  obtain ⟨ta, pa, sa⟩ := he
  refine ⟨_, pe_join po pa hs hbase hline, fun J H σ g M P xw Q d rg h c cx => so J H σ g M _ xw _ d rg h (fun x v J1 H1 M1 p1 e1 d1 r1 => ?_) cx⟩
  obtain ⟨⟨a, rfl⟩, p1⟩ := p1
  cases r1
  refine ⟨⟨a, rfl⟩, sa J1 H1 σ g M1 _ xw _ d1 (rg.mono e1) p1 (fun y u J2 H2 M2 p2 e2 d2 r2 => ?_) (cx.mono e1)⟩
  obtain ⟨zs, h1, h2, h3⟩ := p2
  obtain ⟨q, us, rfl, l, r3⟩ := h1.get d2 r2
  rw [strs_v r3] at l
  exact ⟨a, q, zs, rfl, rfl, l, h2, c _ _ J2 H2 M2 h3 (e1.trans e2) d2 (.str _)⟩
def mSplit : R → List R → MH → DP → Prop := fun x ys M P => match x, ys with
  | .str a, [.str b] => (b.length == 0) = false ∧ a.length + 2 ≤ sizeLine ∧ P (.lst ((Txt.split a b).map R.str)) M
  | _, _ => False
theorem strs_rvs {K : PySem.W.Frag} {J : Jp} : ∀ ns : List Str, RVs K J (ns.map R.str) (ns.map V.str)
  | [] => .nil
  | n :: ns => .cons (.str n) (strs_rvs ns)
theorem de_split {o e : Expr} {apos : Pos} {wo we : WE} (ho : DE X W o wo) (he : DE X W e we) (hs : starEach [e] X.env = [(false, eval e X.env)] := by rfl) (hbase : attributeBase o "split" X.env (eval o X.env) = eval o X.env := by rfl) (hline : (apos.endLine == pos.line) = true := by rfl) :
    DE X W (.Call (.Attribute o "split" apos) [e] [] pos) (wMethS mSplit wo we) := by
  obtain ⟨to, po, so⟩ := ho
  obtain ⟨ta, pa, sa⟩ := he
  refine ⟨_, pe_split po pa hs hbase hline, fun J H σ g M P xw Q d rg h c cx => so J H σ g M _ xw _ d rg h (fun x v J1 H1 M1 p1 e1 d1 r1 => ?_) cx⟩
  obtain ⟨⟨a, rfl⟩, p1⟩ := p1
  cases r1
  refine ⟨⟨a, rfl⟩, sa J1 H1 σ g M1 _ xw _ d1 (rg.mono e1) p1 (fun y u J2 H2 M2 p2 e2 d2 r2 => ?_) (cx.mono e1)⟩
  cases r2 with
  | str b => exact ⟨_, _, rfl, rfl, p2.1, p2.2.1, newL d2 (c.mono (e1.trans e2)) p2.2.2 (strs_rvs _)⟩
  | _ => exact False.elim p2
/-- a sum of lists that will change -/
def dAddO : D2 := fun x y M P => ∃ a b, LsOf M x a ∧ LsOf M y b ∧ a.length + b.length ≤ sizeLine ∧ ∀ p, M p = none → P (.o p) (updM M p (.lst (a ++ b)))
theorem sim_addO {K : PySem.W.Frag} : Sim2 K (rAddU K) dAddO := by
  intro J H M x y v u P Q d rx ry h c
  obtain ⟨a, b, h1, h2, h3, h4⟩ := h
  obtain ⟨p, vs, e1, l1, r1⟩ := h1.get d rx
  obtain ⟨q, us, e2, l2, r2⟩ := h2.get d ry
  exact .inr (.inr (.inr (.inr ⟨_, _, _, _, e1, e2, l1, l2, by rw [← r1.len, ← r2.len]; exact h3, newO d c h4 (r1.app r2)⟩)))
end
end DL
set_option Elab.async false
set_option linter.all false
set_option maxRecDepth 100000
set_option maxHeartbeats 2000000
namespace DL
open PySem PySem.Spec L2
open PyProof.Rows hiding St
abbrev M0 : MH := fun _ => none
def J0 : Jp := ⟨fun _ => none, fun _ => none⟩
section
variable {P : Program} {w : World} {K : PySem.W.Frag} {mg mb : Str → Option Value} {k : Nat} {fa a : Addr} {fd : FuncData} {x : Str} {dsp : DSp} {s₁ : Shared} {vs : List Value} {ns : List Int}
/-- from an abstract heap in which nothing but the script may be tracked -/
theorem law_core (KX : K.In s₁.heap) (hns : s₁.heap.Ns mainGlobals mg) (hb : s₁.heap.Ns builtinsNs mb) (hbb : ∀ x : Str, x ≠ "__name__" → mb x = bootBuiltins x) (hlim : s₁.heap.NoLimit) (hg : s₁.gens = #[])
    (ha : s₁.heap.get? a = some { cls := .type "list", data := .seq vs.toArray }) (hr : Room k callerA) (F : ∀ base : Heap, K.In base → base.Ns mainGlobals mg → DFn P w K mg base k fa fd [x] dsp)
    (hbind : ∀ (s : Shared) (u : Value), BindsTo s fd ⟨[u], []⟩ [(x, u)]) (hsp : dsp [.scr ns] M0 (fun r _ => r = .bl true) noX)
    (H : Hp) (hO : ∀ b u, H b = some u → b = a ∧ u = .frz { cls := .type "list", data := .seq vs.toArray } (.lst (ns.map V.int))) (hS : Ls K H a (ns.map V.int)) (hok : HOk P w H s₁.heap) (hK : H a ≠ none → K.lookup a = none) :
    codeAny (model P w) callerA (.call (.ref fa) ⟨[.ref a], []⟩) (fun r s' => r = .ok (.ret (.bool true)) ∧ OldK s₁.heap s'.heap ∧ s'.os = s₁.os ∧ AllBare s'.gens) s₁ := by
  have nd : ∀ {b : Addr} {o : Obj} {es : Array DictEntry} {ep : Nat}, s₁.heap.get? b = some o → o.data = .dict es ep → H b = none := by
    intro b o es ep e q
    cases z : H b with
    | none => rfl
    | some u =>
      obtain ⟨rfl, _⟩ := hO b u z
      rw [ha] at e
      cases e
      exact absurd q (by intro y; cases y)
  have nsk : ∀ {b : Addr} {m : Str → Option Value}, s₁.heap.Ns b m → (hidT s₁.heap H).Ns b m := by
    rintro b m ⟨o, es, ep, e, q, r⟩
    exact ⟨o, es, ep, hidT_get e (nd e q), q, r⟩
  have kin : K.In (hidT s₁.heap H) := by
    intro b o e
    refine hidT_get (KX b o e) ?_
    cases z : H b with
    | none => rfl
    | some u =>
      obtain ⟨rfl, _⟩ := hO b u z
      rw [hK (by rw [z]; intro y; cases y)] at e
      cases e
  have hM : Mod K mg (hidT s₁.heap H) := ⟨kin, nsk hns, ⟨mb, nsk hb, hbb⟩, let ⟨mc, h1, h2⟩ := hlim; ⟨mc, nsk h1, h2⟩⟩
  have e0 : Env0 P w K mg (hidT s₁.heap H) callerA [] s₁ H := ⟨rfl, hM, fun _ _ e => of_hidT e, Nat.le_of_eq (hidT_size _ _), trivial, fun b z => (by cases (show b ∈ ([] : List Addr) from z)), hok, AllBare.of_eq hg⟩
  have dst : DSt K ⟨H, fun _ => none⟩ H M0 := ⟨fun _ _ e => e, fun _ _ e => (by cases e), fun _ _ e => (by cases e), fun _ _ e => (by cases e), fun _ _ e => (by cases e)⟩
  refine codeAny_mono ((F _ kin (nsk hns)).run callerA [] s₁ H ⟨[.ref a], []⟩ [.ref a] [.ref a] (fun v _ => v = .bl true) (fun _ _ _ => False) hr rfl e0 (hbind s₁ (.ref a)) (.cons rfl .nil)
    ⟨rfl, ⟨H, fun _ => none⟩, M0, [.scr ns], _, noX, dst, .cons (.scr hS) .nil, hsp, ?_, noX_cont⟩) ?_
  · intro r v J' H' M' q _ _ rv
    rw [q] at rv
    cases rv; rfl
  · intro r s' h
    cases r with
    | error e =>
      obtain ⟨_, _, _, _, _, _, _, _, _, _, _, _, z⟩ := h
      exact z.elim
    | ok fl =>
      cases fl with
      | next => exact False.elim h
      | brk => exact False.elim h
      | cont => exact False.elim h
      | ret u =>
        obtain ⟨v, H', os, bare, un, hok', r', q⟩ := h
        have q' : v = .bl true := q
        subst q'
        obtain rfl : u = Value.bool true := r'
        refine ⟨rfl, OldK.of_keep fun b o e => ?_, os, bare⟩
        cases z : H b with
        | none => exact un.keep b o e z (fun y => by cases (show b ∈ ([] : List Addr) from y)) (by simp)
        | some u =>
          obtain ⟨rfl, rfl⟩ := hO b u z
          obtain ⟨e1, _⟩ := hok b _ z
          obtain ⟨e2, _⟩ := hok' b _ (un.frzs b _ _ z)
          rw [e] at e1; cases e1
          exact e2
theorem law_callG (KX : K.In s₁.heap) (hns : s₁.heap.Ns mainGlobals mg) (hb : s₁.heap.Ns builtinsNs mb) (hbb : ∀ x : Str, x ≠ "__name__" → mb x = bootBuiltins x) (hlim : s₁.heap.NoLimit) (hg : s₁.gens = #[])
    (ha : s₁.heap.get? a = some { cls := .type "list", data := .seq vs.toArray }) (hi : IntsAre vs ns) (hl : ns.length ≤ sizeLine) (hr : Room k callerA) (F : ∀ base : Heap, K.In base → base.Ns mainGlobals mg → DFn P w K mg base k fa fd [x] dsp)
    (hbind : ∀ (s : Shared) (u : Value), BindsTo s fd ⟨[u], []⟩ [(x, u)]) (hsp : dsp [.scr ns] M0 (fun r _ => r = .bl true) noX) :
    codeAny (model P w) callerA (.call (.ref fa) ⟨[.ref a], []⟩) (fun r s' => r = .ok (.ret (.bool true)) ∧ OldK s₁.heap s'.heap ∧ s'.os = s₁.os ∧ AllBare s'.gens) s₁ := by
  have rv := vals_ints hi
  have lv : vs.length ≤ sizeLine := by rw [hi.length]; exact hl
  have core := law_core (H := fun b => if b = a then (if K.lookup a = none then some (.frz { cls := .type "list", data := .seq vs.toArray } (.lst (ns.map V.int))) else none) else none) KX hns hb hbb hlim hg ha hr F hbind hsp
  refine core ?_ ?_ ?_ ?_
  · intro b u z
    try dsimp only at z
    split at z
    · rename_i e
      split at z
      · cases z; exact ⟨e, rfl⟩
      · cases z
    · cases z
  · by_cases e : K.lookup a = none
    · refine .inl (.inr ⟨{ cls := .type "list", data := .seq vs.toArray }, ?_⟩)
      try dsimp only
      rw [if_pos rfl, if_pos e]
    · refine .inr ⟨vs, ?_, lv, rv⟩
      cases q : K.lookup a with
      | none => exact absurd q e
      | some o => rw [← ha]; exact (KX a o q).symm
  · intro b u z
    try dsimp only at z
    split at z
    · rename_i e
      subst e
      split at z
      · cases z
        exact ⟨ha, by rw [List.length_map]; exact hl, vs, _, rv, ha⟩
      · cases z
    · cases z
  · intro z
    try dsimp only at z
    rw [if_pos rfl] at z
    split at z
    · assumption
    · exact absurd rfl z
end
/-- the end: F gives the written part, the function object, the promise over every base; the script's bits are told -/
theorem walk_G {l : PySem.W.OpenLaw} {n k : Nat} {q : Program} {loose : List Str} {XP : (Str → Option Value) → Heap → Prop} {YP : World → Heap → Prop} {d : DefRec} {x : Str} (hn : l.most = some n) (hn2 : n ≤ sizeLine) (hdf : d.params.defaults = []) (hr : Room k callerA)
    (F : ∀ (w : World) (mg : Str → Option Value) (fa : Addr) (h : Heap), YP w h → h.Ns mainGlobals mg → mg d.name = some (.ref fa) →
      ∃ (K : PySem.W.Frag) (fd : FuncData) (dsp : DSp), K.In h ∧ (∀ (s : Shared) (u : Value), BindsTo s fd ⟨[u], []⟩ [(x, u)]) ∧
        (∀ ns : List Int, ns.length ≤ n → (∀ z ∈ ns, Builtin.Int.intBits z ≤ 1048576) → dsp [.scr ns] M0 (fun r _ => r = .bl true) noX) ∧ ∀ base : Heap, K.In base → base.Ns mainGlobals mg → DFn l.prog w K mg base k fa fd [x] dsp) :
    PySem.W.WalkO q loose XP YP l.row.toRowW d [] (fun f vs => PySem.call f vs) := by
  refine Att.attach_callB hn hdf ?_
  intro w s₀ s₁ mg mb fa o pm cd doc a vs ns G Y ho hd hcd hmg hobj hints hlen hbits hg
  obtain ⟨K, fd, dsp, KX, hb, hsp, hF⟩ := F w mg fa _ Y G.T.g hmg
  exact law_callG KX G.T.g G.T.b G.T.builtins G.T.nolimit hg hobj hints (Nat.le_trans hlen hn2) hr hF hb (hsp ns hlen hbits)
end DL
set_option Elab.async false
set_option linter.all false
set_option maxRecDepth 100000
set_option maxHeartbeats 2000000
namespace DL
open PySem PySem.Spec L2
open PyProof.Rows hiding St
section
variable {P : Program} {w : World} {K : PySem.W.Frag} {mg : Str → Option Value} {base : Heap} {k : Nat} {f : Addr} {fd : FuncData} {ps : List Str}
theorem DSt.openD {J : Jp} {H : Hp} {M : MH} {a : Addr} {n : Nat} (d : DSt K J H M) (h : M a = some (.dr n)) : ∃ ns t l u, DrOk n ns t l u ∧ DSt K J H (updM M a (.dK (drKvs ns t l u))) := by
  obtain ⟨ns, t, l, u, h0, h1⟩ := d.mo a _ h
  refine ⟨ns, t, l, u, h0, d.ex, d.fr, d.fj, fun b m e => ?_, fun b m e => ?_⟩
  · by_cases z : b = a
    · rw [z]; exact d.no a _ h
    · rw [updM_ne z] at e; exact d.no b m e
  · by_cases z : b = a
    · rw [z, updM_same] at e; cases e; rw [z]; exact h1
    · rw [updM_ne z] at e; exact d.mo b m e
theorem DSt.closeD {J : Jp} {H : Hp} {M : MH} {a : Addr} {n : Nat} {ns : List Int} {t l u : Int} (d : DSt K J H M) (h0 : DrOk n ns t l u) (h : M a = some (.dK (drKvs ns t l u))) : DSt K J H (updM M a (.dr n)) := by
  refine ⟨d.ex, d.fr, d.fj, fun b m e => ?_, fun b m e => ?_⟩
  · by_cases z : b = a
    · rw [z]; exact d.no a _ h
    · rw [updM_ne z] at e; exact d.no b m e
  · by_cases z : b = a
    · rw [z, updM_same] at e; cases e; rw [z]; exact ⟨ns, t, l, u, h0, d.mo a _ h⟩
    · rw [updM_ne z] at e; exact d.mo b m e
theorem DrOk.mono {n m : Nat} {ns : List Int} {t l u : Int} (h : DrOk n ns t l u) (e : n ≤ m) : DrOk m ns t l u := ⟨h.len, by have := h.at0; omega, h.left0⟩
/-- the draw at a, told to the sign within; after it the counts are at most n + c -/
def openS (c : Nat) (a : Addr) (M : MH) (S : MH → DP → DX → Prop) (Q : DP) : Prop := ∃ n, M a = some (.dr n) ∧ ∀ ns t l u, DrOk n ns t l u →
  S (updM M a (.dK (drKvs ns t l u))) (fun r M' => ∃ ns' t' l' u', DrOk (n + c) ns' t' l' u' ∧ M' a = some (.dK (drKvs ns' t' l' u')) ∧ Q r (updM M' a (.dr (n + c)))) noX
def opened (c : Nat) (S : DSp) : DSp := fun rs M Q _ => ∃ a rest, rs = .o a :: rest ∧ openS c a M (S rs) Q
theorem DFn.opened {S : DSp} (c : Nat) (F : DFn P w K mg base k f fd ps S) : DFn P w K mg base k f fd ps (opened c S) := by
  refine ⟨fun _ _ _ _ q => q.1, fun A outer s H args us vs Q E r g e b v ⟨l, J, M, rs, Pp, xw, d, rv, ⟨a, rest, hr, n, hm, h⟩, c, cx⟩ => ?_⟩
  obtain ⟨ns, t, l', u, h0, d1⟩ := d.openD hm
  refine F.run A outer s H args us vs Q E r g e b v ⟨l, J, _, rs, _, noX, d1, rv, h ns t l' u h0, ?_, noX_cont⟩
  rintro r v J' H' M' ⟨ns', t', l'', u', h0', h1, h2⟩ e' d' rv'
  exact c r v J' H' _ h2 e' (d'.closeD h0' h1) rv'
def closedS (S : DSp) : DSp := fun rs M Q xw => S rs M (fun r M' => ∃ a n ns t l u, r = .o a ∧ DrOk n ns t l u ∧ M' a = some (.dK (drKvs ns t l u)) ∧ Q r (updM M' a (.dr n))) xw
theorem DFn.closedS {S : DSp} (F : DFn P w K mg base k f fd ps S) : DFn P w K mg base k f fd ps (closedS S) := by
  refine ⟨fun _ _ _ _ q => q.1, fun A outer s H args us vs Q E r g e b v ⟨l, J, M, rs, Pp, xw, d, rv, h, c, cx⟩ => ?_⟩
  refine F.run A outer s H args us vs Q E r g e b v ⟨l, J, _, rs, _, xw, d, rv, h, ?_, cx⟩
  rintro r v J' H' M' ⟨a, n, ns', t', l'', u', rfl, h0', h1, h2⟩ e' d' rv'
  exact c _ v J' H' _ h2 e' (d'.closeD h0' h1) rv'
end
theorem nt {A : Prop} : false = true → A := fun z => Bool.noConfusion z
theorem tn {A : Prop} : true = false → A := fun z => Bool.noConfusion z
theorem ne_new {M : MH} {a l : Addr} {m : MO} (h : M a = some m) (h2 : M l = none) : a ≠ l := fun e => by rw [e, h2] at h; cases h
theorem keep_ne {M : MH} {a l : Addr} {m x : MO} (h : M a = some m) (h2 : a ≠ l) : updM M l x a = some m := by rw [updM_ne h2]; exact h
theorem lenLt {α : Type} {xs : List α} {k : Nat} (h : xs.length = k) (h2 : k < 16777216) : xs.length < sizeLine := by rw [h]; exact Nat.lt_of_lt_of_le h2 (by decide)
theorem lenLe {α : Type} {xs ys : List α} {k j : Nat} (h : xs.length = k) (h' : ys.length = j) (h2 : k + j < 16777216) : xs.length + ys.length ≤ sizeLine := by rw [h, h']; exact Nat.le_of_lt (Nat.lt_of_lt_of_le h2 (by decide))
theorem noT {b : Bool} {A : Prop} (h : b = false) : b = true → A := fun z => absurd (h.symm.trans z) (by decide)
theorem noF {b : Bool} {A : Prop} (h : b = true) : b = false → A := fun z => absurd (h.symm.trans z) (by decide)
theorem atI_nn {α : Type} {xs : List α} {i : Int} (h : 0 ≤ i) (h2 : i < xs.length) : atI xs i = xs[i.toNat]? := by
  unfold atI ixN
  rw [if_pos h, if_pos h2]; rfl
theorem atI_some {α : Type} {xs : List α} {i : Int} (h : 0 ≤ i) (h2 : i < xs.length) : ∃ r, atI xs i = some r ∧ r ∈ xs := by
  have l : i.toNat < xs.length := by omega
  exact ⟨xs[i.toNat], by rw [atI_nn h h2, List.getElem?_eq_getElem l], List.getElem_mem l⟩
/-- a fresh draw -/
def spBegin : DSp := fun rs M Q _ => ∃ ns : List Int, rs = [.scr ns] ∧ ns.length ≤ 90 ∧ ∀ a, M a = none → Q (.o a) (updM M a (.dr 0))
def spMixed : DSp := fun rs M Q _ => ∃ c k : Int, rs = [.int c, .int k] ∧ 0 ≤ k ∧ k < 2 ^ 62 ∧ ∀ i, 0 ≤ i → Q (.int i) M
/-- a number below many -/
def spNext : DSp := fun rs M Q _ => ∃ a m n, rs = [.o a, .int m] ∧ M a = some (.dr n) ∧ n < 2 ^ 60 ∧ CDivW 0 m ∧ ∀ i, 0 ≤ i → i < m → Q (.int i) (updM M a (.dr (n + 1)))
theorem divOk {m : Int} (h : 0 < m) (h2 : m < 2 ^ 64) : CDivW 0 m := wide_div (b := 64) h (by omega) (by decide) (by decide)
end DL
set_option Elab.async false
set_option linter.all false
set_option maxRecDepth 100000
set_option maxHeartbeats 2000000
set_option autoImplicit false
namespace DL
open PySem PySem.Spec L2
open PyProof.Rows hiding St
section
variable {rs : List R} {wg : WG} {g' : G} {wt : WT} {we : WE} {M : MH} (p : R → Bool) (f : R → R)
abbrev LcH (rs : List R) (wg : WG) (g' : G) (wt : WT) (we : WE) (M : MH) (p : R → Bool) (f : R → R) : Prop := ∀ r, r ∈ rs → ∀ (Pt : R → MH → Prop) (Pf : MH → Prop), (p r = true → Pt (f r) M) → (p r = false → Pf M) →
  wg r g' M (fun g2 M2 => wt g2 M2 (fun b M3 => (b = true → we g2 M3 Pt noX) ∧ (b = false → Pf M3)) noX)
theorem lcStep (h : LcH rs wg g' wt we M p f) : ∀ i r acc M', rs[i]? = some r → acc.length ≤ i → (acc = ((rs.take i).filter p).map f ∧ M' = M) →
    wg r g' M' (fun g2 M2 => wt g2 M2 (fun b M3 => (b = true → we g2 M3 (fun e M4 => (acc ++ [e] = ((rs.take (i + 1)).filter p).map f ∧ M4 = M)) noX) ∧ (b = false → (acc = ((rs.take (i + 1)).filter p).map f ∧ M3 = M))) noX) := by
  intro i r acc M' e _ ⟨ha, hm⟩
  subst hm
  have t : rs.take (i + 1) = rs.take i ++ [r] := by rw [List.take_succ, e]; rfl
  refine h r (List.mem_of_getElem? e) _ _ (fun y => ⟨?_, rfl⟩) (fun y => ⟨?_, rfl⟩)
  · rw [t, List.filter_append, List.map_append, ← ha, List.filter_cons, if_pos y]; rfl
  · rw [t, List.filter_append, List.map_append, ← ha, List.filter_cons, if_neg (by rw [y]; exact Bool.false_ne_true)]
    exact (List.append_nil _).symm
theorem lcFM {F : List R → MH → Prop} (h : LcH rs wg g' wt we M p f) (hP : F ((rs.filter p).map f) M) :
    ∃ Inv : Nat → List R → MH → Prop, Inv 0 [] M ∧
    (∀ i r acc M', rs[i]? = some r → acc.length ≤ i → Inv i acc M' → wg r g' M' (fun g2 M2 => wt g2 M2 (fun b M3 => (b = true → we g2 M3 (fun e M4 => Inv (i + 1) (acc ++ [e]) M4) noX) ∧ (b = false → Inv (i + 1) acc M3)) noX)) ∧
    (∀ acc M', acc.length ≤ rs.length → Inv rs.length acc M' → F acc M') := by
  refine ⟨fun i acc M' => acc = ((rs.take i).filter p).map f ∧ M' = M, ⟨rfl, rfl⟩, lcStep p f h, ?_⟩
  rintro acc M' _ ⟨rfl, rfl⟩
  rw [List.take_length]; exact hP
end
theorem filtT {α : Type} (xs : List α) : xs.filter (fun _ => true) = xs := List.filter_eq_self.mpr fun _ _ => rfl
/-- facts of a word w wide: the bits known to be 0, those known to be 1 -/
structure Fct (w : Nat) (z o : Nat) : Prop where
  zl : z < 2 ^ w
  ol : o < 2 ^ w
  zo : z &&& o = 0
theorem shl1 (w : Nat) : (1 : Int) * 2 ^ (w : Int).toNat = ((2 ^ w : Nat) : Int) := by
  rw [Int.toNat_natCast, Int.one_mul, Int.natCast_pow]; rfl
theorem shlM (w : Nat) : (1 : Int) * 2 ^ (w : Int).toNat - 1 = ((2 ^ w - 1 : Nat) : Int) := by
  have := Nat.two_pow_pos w
  rw [shl1]; omega
theorem pow1 {w : Nat} (h : w ≤ 1000) : CPow 1 (w : Int) := ⟨by omega, by omega, by decide⟩
theorem pickL {M : MH} {x : R} {rs : List R} {i : Int} {n : Nat} {P : R → Prop} (hl : LsOf M x rs) (e : rs.length = n) (h : 0 ≤ i) (h2 : i < (n : Int)) (hP : ∀ r ∈ rs, P r) : ∃ rs r, LsOf M x rs ∧ atI rs i = some r ∧ P r := by
  obtain ⟨r, h3, hm⟩ := atI_some h (show i < (rs.length : Int) by rw [e]; exact h2)
  exact ⟨rs, r, hl, h3, hP r hm⟩
theorem pickI {rs : List R} {i : Int} {m : Nat} (h : 0 ≤ i) (h2 : i < rs.length) (hr : ∀ r ∈ rs, ∃ v : Nat, r = .int v ∧ v < m) : ∃ v : Nat, atI rs i = some (.int v) ∧ v < m := by
  obtain ⟨r, e, hm⟩ := atI_some h h2
  obtain ⟨v, rfl, hv⟩ := hr r hm
  exact ⟨v, e, hv⟩
end DL
set_option Elab.async false
set_option linter.all false
set_option maxRecDepth 100000
set_option maxHeartbeats 2000000
set_option autoImplicit false
namespace DL
open PySem PySem.Spec L2
open PyProof.Rows hiding St
theorem repr_le {n : Nat} (h : n < 2 ^ 128) : (Nat.repr n).length ≤ 128 := by
  have h1 : (2 : Nat) ^ 128 ≤ 10 ^ 128 := Nat.pow_le_pow_left (by decide) 128
  have := toDigits_len_pow (b := 10) (k := 128) (n := n) (by decide) (by decide) (by omega)
  simpa [Nat.repr] using this
theorem intText_le {i : Int} (h : i.natAbs < 2 ^ 128) : (Str.ofString (toString i)).length ≤ 130 := by
  rw [ofString_len]
  cases i with
  | ofNat m =>
    have h' : m < 2 ^ 128 := h
    have := repr_le h'
    show (Nat.repr m).length ≤ _
    omega
  | negSucc m =>
    have h' : m + 1 < 2 ^ 128 := h
    have := repr_le h'
    show ("-" ++ Nat.repr (m + 1)).length ≤ _
    have h1 : "-".length = 1 := by first | rfl | decide
    rw [String.length_append, h1]
    omega
mutual
/-- what may be shown: numbers below 2 ** 128, short texts, all of it standing -/
def R.shw : R → Bool
  | .non => true
  | .bl _ => true
  | .int i => decide (i.natAbs < 2 ^ 128)
  | .str x => decide (x.length ≤ 200) && PyData.strOk x
  | .tup rs => R.shws rs
  | .lst rs => R.shws rs
  | .pt rs => R.shws rs
  | _ => false
def R.shws : List R → Bool
  | [] => true
  | r :: rs => r.shw && R.shws rs
end
mutual
/-- how many things -/
def R.cnt : R → Nat
  | .tup rs => 1 + R.cnts rs
  | .lst rs => 1 + R.cnts rs
  | .pt rs => 1 + R.cnts rs
  | _ => 1
def R.cnts : List R → Nat
  | [] => 0
  | r :: rs => r.cnt + R.cnts rs
end
mutual
def R.dep : R → Nat
  | .tup rs => 1 + R.deps rs
  | .lst rs => 1 + R.deps rs
  | .pt rs => 1 + R.deps rs
  | _ => 0
def R.deps : List R → Nat
  | [] => 0
  | r :: rs => max r.dep (R.deps rs)
end
theorem listText_le (ts : List Str) : (listText ts).length ≤ piled ts + 2 := by
  cases ts with
  | nil => exact Nat.le_refl _
  | cons t r =>
    have h := textFrom_length_pos r 1 (("[" : Str) ++ (if (0 : Nat) > 0 then ", " else "" : String) ++ t) (Nat.succ_pos 0)
    have e : ((("[" : Str) ++ (if (0 : Nat) > 0 then ", " else "" : String) ++ t)).length = 1 + t.length := by
      rw [strLen_append, strLen_append]; rfl
    have hX : (listText (t :: r)).length = (textFrom 0 "[" (t :: r)).length + 1 := by
      show (textFrom 0 "[" (t :: r) ++ "]").length = _
      rw [strLen_append]; rfl
    have hY : (textFrom 0 "[" (t :: r)).length = (textFrom 1 (("[" : Str) ++ (if (0 : Nat) > 0 then ", " else "" : String) ++ t) r).length := rfl
    rw [hX, hY, h, e, piled_cons]; omega
theorem tupleText_le (ts : List Str) : (tupleText ts).length ≤ piled ts + 3 := by
  unfold tupleText
  rw [strLen_append, strLen_append]
  have e1 : ((("(" : String) : Str)).length = 1 := rfl
  have e3 : (((if ts.length == 1 then ",)" else ")" : String) : Str)).length ≤ 2 := by split <;> decide
  rw [e1]
  by_cases h : ts = []
  · subst h
    have : (Str.join ", " ([] : List Str)).length = 0 := rfl
    omega
  · have := join_length_add ts h
    omega
mutual
theorem R.shown_le : ∀ (r : R) (d : PyData), r.shw = true → r.py = some d → d.shown.length + 2 ≤ 2105 * r.cnt ∧ d.showable = true ∧ d.hasDict = false ∧ d.depth = r.dep ∧ d.canLay0 = true
  | .non, d, _, e => by cases e; exact ⟨by decide, rfl, rfl, rfl, rfl⟩
  | .bl b, d, _, e => by cases e; exact ⟨by cases b <;> decide, rfl, rfl, rfl, rfl⟩
  | .int i, d, h, e => by
    cases e
    have h' : i.natAbs < 2 ^ 128 := of_decide_eq_true h
    refine ⟨?_, ?_, rfl, rfl, rfl⟩
    · have := intText_le h'
      show (Str.ofString (toString i)).length + 2 ≤ 2105 * 1
      omega
    · exact decide_eq_true (Nat.lt_trans (PySem.Flt.log2_lt_of (by decide) h') (by decide))
  | .str x, d, h, e => by
    cases e
    have h' : (decide (x.length ≤ 200) && PyData.strOk x) = true := h
    rw [Bool.and_eq_true, decide_eq_true_eq] at h'
    have hc : ∀ c ∈ x.cps.toList, c < 16 ^ 8 := by
      intro c hc
      have h2 : x.cps.all (· < 0x110000) = true := h'.2
      rw [Array.all_eq_true_iff_forall_mem] at h2
      have := h2 c (Array.mem_toList_iff.mp hc)
      simp at this
      omega
    have := PySem.StrLaws.reprText_len x hc
    refine ⟨?_, rfl, rfl, rfl, h'.2⟩
    show (reprText x).length + 2 ≤ 2105 * 1
    omega
  | .tup rs, d, h, e => by
    rw [R.py] at e
    obtain ⟨ds, e1, rfl⟩ := Option.map_eq_some_iff.mp e
    obtain ⟨h1, h2, h3, h4, h5⟩ := R.showns_le rs ds h e1
    refine ⟨?_, h2, h3, ?_, h5⟩
    · have := tupleText_le (PyData.shownAll ds)
      show (tupleText (PyData.shownAll ds)).length + 2 ≤ 2105 * (1 + R.cnts rs)
      omega
    · show PyData.depthAll ds + 1 = 1 + R.deps rs
      omega
  | .lst rs, d, h, e => by
    rw [R.py] at e
    obtain ⟨ds, e1, rfl⟩ := Option.map_eq_some_iff.mp e
    obtain ⟨h1, h2, h3, h4, h5⟩ := R.showns_le rs ds h e1
    refine ⟨?_, h2, h3, ?_, h5⟩
    · have := listText_le (PyData.shownAll ds)
      show (listText (PyData.shownAll ds)).length + 2 ≤ 2105 * (1 + R.cnts rs)
      omega
    · show PyData.depthAll ds + 1 = 1 + R.deps rs
      omega
  | .o _, _, h, _ => by cases h
  | .ty _, _, h, _ => by cases h
  | .scr _, _, h, _ => by cases h
  | .ex _ _ _, _, h, _ => by cases h
  | .pt rs, d, h, e => by
    rw [R.py] at e
    obtain ⟨ds, e1, rfl⟩ := Option.map_eq_some_iff.mp e
    obtain ⟨h1, h2, h3, h4, h5⟩ := R.showns_le rs ds h e1
    refine ⟨?_, h2, h3, ?_, h5⟩
    · have := tupleText_le (PyData.shownAll ds)
      show (tupleText (PyData.shownAll ds)).length + 2 ≤ 2105 * (1 + R.cnts rs)
      omega
    · show PyData.depthAll ds + 1 = 1 + R.deps rs
      omega
theorem R.showns_le : ∀ (rs : List R) (ds : List PyData), R.shws rs = true → R.pys rs = some ds → piled (PyData.shownAll ds) ≤ 2105 * R.cnts rs ∧ PyData.showableAll ds = true ∧ PyData.hasDictAll ds = false ∧ PyData.depthAll ds = R.deps rs ∧ PyData.canLayAll0 ds = true
  | [], ds, _, e => by cases e; exact ⟨Nat.le_refl _, rfl, rfl, rfl, rfl⟩
  | r :: rs, ds, h, e => by
    have h' : (r.shw && R.shws rs) = true := h
    rw [Bool.and_eq_true] at h'
    rw [R.pys] at e
    cases e1 : r.py with
    | none => rw [e1] at e; cases e
    | some d =>
      cases e2 : R.pys rs with
      | none => rw [e1, e2] at e; cases e
      | some ds' =>
        rw [e1, e2] at e
        cases e
        obtain ⟨a1, a2, a3, a4, a5⟩ := R.shown_le r d h'.1 e1
        obtain ⟨b1, b2, b3, b4, b5⟩ := R.showns_le rs ds' h'.2 e2
        refine ⟨?_, ?_, ?_, ?_, ?_⟩
        · show piled (d.shown :: PyData.shownAll ds') ≤ 2105 * (r.cnt + R.cnts rs)
          rw [piled_cons]; omega
        · show (d.showable && PyData.showableAll ds') = true
          rw [a2, b2]; rfl
        · show (d.hasDict || PyData.hasDictAll ds') = false
          rw [a3, b3]; rfl
        · show max d.depth (PyData.depthAll ds') = max r.dep (R.deps rs)
          rw [a4, b4]
        · show (d.canLay0 && PyData.canLayAll0 ds') = true
          rw [a5, b5]; rfl
end
mutual
theorem R.py_some : ∀ r : R, r.shw = true → ∃ d, r.py = some d
  | .non, _ => ⟨_, rfl⟩
  | .bl _, _ => ⟨_, rfl⟩
  | .int _, _ => ⟨_, rfl⟩
  | .str _, _ => ⟨_, rfl⟩
  | .tup rs, h => by
    obtain ⟨ds, e⟩ := R.pys_some rs h
    exact ⟨.tuple ds, by rw [R.py, e]; rfl⟩
  | .lst rs, h => by
    obtain ⟨ds, e⟩ := R.pys_some rs h
    exact ⟨.list ds, by rw [R.py, e]; rfl⟩
  | .o _, h => by cases h
  | .ty _, h => by cases h
  | .scr _, h => by cases h
  | .ex _ _ _, h => by cases h
  | .pt rs, h => by
    obtain ⟨ds, e⟩ := R.pys_some rs h
    exact ⟨.tuple ds, by rw [R.py, e]; rfl⟩
theorem R.pys_some : ∀ rs : List R, R.shws rs = true → ∃ ds, R.pys rs = some ds
  | [], _ => ⟨_, rfl⟩
  | r :: rs, h => by
    have h' : (r.shw && R.shws rs) = true := h
    rw [Bool.and_eq_true] at h'
    obtain ⟨d, e1⟩ := R.py_some r h'.1
    obtain ⟨ds, e2⟩ := R.pys_some rs h'.2
    exact ⟨d :: ds, by rw [R.pys, e1, e2]⟩
end
/-- a tuple or a list that stands -/
def R.seq : R → Bool
  | .tup _ => true
  | .lst _ => true
  | _ => false
/-- == and != of what may be shown -/
theorem R.shaped_of {r : R} {d : PyData} (h : r.shw = true) (hd : r.dep ≤ 60) (e : r.py = some d) : SeqAt.shaped d = true := by
  obtain ⟨_, _, _, h4, h5⟩ := R.shown_le r d h e
  unfold SeqAt.shaped
  rw [h5, Bool.true_and]
  exact decide_eq_true (by omega)
theorem eqvNil (ds : List PyData) : PyData.eqv (.list ds) (.list []) = ds.isEmpty := by
  cases ds <;> rfl
/-- what repr asks and gives, of a tuple or a list that stands -/
theorem reprD {r : R} (h : r.shw = true) (hc : Nat.ble r.cnt 5000 = true) (hd : Nat.ble r.dep 40 = true) : ∃ d, r.py = some d ∧ d.showable = true ∧ d.hasDict = false ∧ d.depth ≤ 50 ∧ d.shown.length ≤ sizeLine ∧ SeqAt.shaped d = true := by
  obtain ⟨d, e⟩ := R.py_some r h
  obtain ⟨h1, h2, h3, h4, h5⟩ := R.shown_le r d h e
  have sl : sizeLine = 16777216 := by decide
  have hc' := Nat.le_of_ble_eq_true hc
  have hd' := Nat.le_of_ble_eq_true hd
  exact ⟨d, e, h2, h3, by omega, by omega, R.shaped_of h (by omega) e⟩
theorem noNe {s : Str} {A : Prop} : (!decide (s = s)) = true → A := fun y => by rw [decide_eq_true rfl] at y; cases y
end DL
set_option Elab.async false
set_option linter.all false
set_option maxRecDepth 100000
set_option maxHeartbeats 2000000
set_option autoImplicit false
set_option Elab.async false
set_option linter.all false
set_option maxRecDepth 100000
set_option maxHeartbeats 2000000
set_option autoImplicit false
namespace DL
open PySem PySem.Spec L2
open PyProof.Rows hiding St
abbrev F2 := Nat × Nat
abbrev f2R (f : F2) : R := .tup [.int f.1, .int f.2]
def fullN (w : Nat) : Nat := 2 ^ w - 1
def commonN (f g : F2) : F2 := (f.1 &&& g.1, f.2 &&& g.2)
/-- a fact of a word w wide -/
def Fc (w : Nat) (f : F2) : Prop := Fct w f.1 f.2
end DL
set_option Elab.async false
set_option linter.all false
set_option maxRecDepth 100000
set_option maxHeartbeats 2000000
set_option autoImplicit false
namespace DL
open PySem PySem.Spec L2
open PyProof.Rows hiding St
/-- x is a word with these facts -/
structure Fits (w : Nat) (f : F2) (x : Nat) : Prop where
  lt : x < 2 ^ w
  z : x &&& f.1 = 0
  o : x &&& f.2 = f.2
theorem Fits.bz {w : Nat} {f : F2} {x : Nat} (h : Fits w f x) {k : Nat} (hk : f.1.testBit k = true) : x.testBit k = false := by
  have e := congrArg (fun n => n.testBit k) h.z
  simp only [Nat.testBit_and, Nat.zero_testBit, hk, Bool.and_true] at e
  exact e
theorem Fits.bo {w : Nat} {f : F2} {x : Nat} (h : Fits w f x) {k : Nat} (hk : f.2.testBit k = true) : x.testBit k = true := by
  have e := congrArg (fun n => n.testBit k) h.o
  simp only [Nat.testBit_and, hk, Bool.and_true] at e
  exact e
theorem fits_of {w : Nat} {f : F2} {x : Nat} (hl : x < 2 ^ w) (hz : ∀ k, f.1.testBit k = true → x.testBit k = false) (ho : ∀ k, f.2.testBit k = true → x.testBit k = true) : Fits w f x := by
  refine ⟨hl, Nat.eq_of_testBit_eq fun k => ?_, Nat.eq_of_testBit_eq fun k => ?_⟩
  · rw [Nat.testBit_and, Nat.zero_testBit]
    cases e : f.1.testBit k with
    | false => rw [Bool.and_false]
    | true => rw [hz k e]; rfl
  · rw [Nat.testBit_and]
    cases e : f.2.testBit k with
    | false => rw [Bool.and_false]
    | true => rw [ho k e]; rfl
theorem Fct.no {w z o : Nat} (h : Fct w z o) {k : Nat} (hz : z.testBit k = true) : o.testBit k = false := by
  have e := congrArg (fun n => n.testBit k) h.zo
  simp only [Nat.testBit_and, Nat.zero_testBit, hz, Bool.true_and] at e
  exact e
/-- what is known of all of S, and no more -/
structure Exact (w : Nat) (S : Nat → Prop) (r : F2) : Prop where
  zl : r.1 < 2 ^ w
  ol : r.2 < 2 ^ w
  bz : ∀ k, k < w → (r.1.testBit k = true ↔ ∀ y, S y → y.testBit k = false)
  bo : ∀ k, k < w → (r.2.testBit k = true ↔ ∀ y, S y → y.testBit k = true)
/-- every bit of a is one of b -/
def BSub (a b : Nat) : Prop := ∀ k, a.testBit k = true → b.testBit k = true
theorem BSub.le {a b : Nat} (h : BSub a b) : a ≤ b := by
  have e : a ||| b = b := Nat.eq_of_testBit_eq fun k => by
    rw [Nat.testBit_or]
    cases e : a.testBit k with
    | false => rfl
    | true => rw [h k e]; rfl
  have : a ≤ a ||| b := Nat.left_le_or
  omega
theorem BSub.mod {a b : Nat} (h : BSub a b) (k : Nat) : a % 2 ^ k ≤ b % 2 ^ k := by
  refine BSub.le fun j hj => ?_
  rw [Nat.testBit_mod_two_pow] at hj ⊢
  rw [Bool.and_eq_true] at hj
  rw [hj.1, h j hj.2]; rfl
/-- two results that differ at k -/
def Split (S : Nat → Prop) (k : Nat) : Prop := ∃ y y', S y ∧ S y' ∧ y.testBit k ≠ y'.testBit k
theorem Split.z {S : Nat → Prop} {k : Nat} (h : Split S k) (v : Bool) : ¬ ∀ y, S y → y.testBit k = v := fun q => by
  obtain ⟨y, y', h1, h2, h3⟩ := h
  exact h3 ((q y h1).trans (q y' h2).symm)
end DL
set_option Elab.async false
set_option linter.all false
set_option maxRecDepth 100000
set_option maxHeartbeats 2000000
set_option autoImplicit false
set_option Elab.async false
set_option linter.all false
set_option maxRecDepth 100000
set_option maxHeartbeats 2000000
set_option autoImplicit false
namespace DL
open PySem PySem.Spec L2
open PyProof.Rows hiding St
inductive Xp where
  | num (n : Nat) | cop (a : Str) | mov (up : Bool) (a : Str) (m : Nat) | pic (a b c : Str) | par (x a b : Str)
def mvw (up : Bool) : Str := if up = true then "up" else "down"
def Xp.r : Xp → R
  | .num n => .tup [.str "number", .int n]
  | .cop a => .tup [.str "copy", .str a]
  | .mov u a m => .tup [.str (mvw u), .str a, .int m]
  | .pic a b c => .tup [.str "pick", .str a, .str b, .str c]
  | .par x a b => .tup [.str x, .str a, .str b]
def Xp.names : Xp → List Str
  | .num _ => []
  | .cop a => [a]
  | .mov _ a _ => [a]
  | .pic a b c => [a, b, c]
  | .par _ a b => [a, b]
def pairWords : List Str := ["add", "less", "and", "or", "unlike", "same", "below"]
def Xp.Ok : Xp → Prop
  | .mov _ _ m => m ≤ 1000
  | .par x _ _ => x ∈ pairWords
  | _ => True
def Xp.Num (w : Nat) : Xp → Prop
  | .num n => n < 2 ^ w
  | _ => True
theorem Exact.tr {w : Nat} {S T : Nat → Prop} {r : F2} (e : Exact w S r) (q : ∀ y, S y ↔ T y) : Exact w T r := by
  have : S = T := funext fun y => propext (q y)
  rwa [this] at e
end DL
set_option Elab.async false
set_option linter.all false
set_option maxRecDepth 100000
set_option maxHeartbeats 2000000
set_option autoImplicit false
namespace DL
open PySem PySem.Spec L2
open PyProof.Rows hiding St
section
variable {X : Cx} {W : WW} {pos : Pos}
/-- d.get(k, x) -/
def wDG2 (wo wi wx : WE) : WE := fun g M P xw => wo g M (fun x M1 => (∃ a kvs, x = .o a ∧ M1 a = some (.dK kvs)) ∧ wi g M1 (fun y M2 => wx g M2 (fun z M3 => match x, keyOf y with
  | .o a, some k => ∃ kvs, M3 a = some (.dK kvs) ∧ P ((valR kvs k).getD z) M3
  | _, _ => False) xw) xw) xw
theorem val_getD {K : PySem.W.Frag} {J : Jp} {kvs : List (Key × R)} {ws : List (Key × V)} {k : Key} {z : R} {u : V} (h : KRV K J kvs ws) (hz : RV K J z u) : RV K J ((valR kvs k).getD z) ((valV ws k).getD u) := by
  have q := h.val (k := k)
  cases e1 : valR kvs k with
  | none =>
    cases e2 : valV ws k with
    | none => exact hz
    | some v => rw [e1, e2] at q; exact q.elim
  | some r =>
    cases e2 : valV ws k with
    | none => rw [e1, e2] at q; exact q.elim
    | some v => rw [e1, e2] at q; exact q
theorem de_dget2 {o i x : Expr} {apos : Pos} {wo wi wx : WE} (hu : X.A.units + 64 < cLine) (ho : DE X W o wo) (hi : DE X W i wi) (hx : DE X W x wx) (m : M2 X o "get" apos i x pos := by exact ⟨rfl, rfl, rfl, rfl⟩) :
    DE X W (.Call (.Attribute o "get" apos) [i, x] [] pos) (wDG2 wo wi wx) := by
  obtain ⟨to, po, so⟩ := ho
  obtain ⟨ti, pi, si⟩ := hi
  obtain ⟨tx, px, sx⟩ := hx
  refine ⟨_, pe_dget2 (by omega) po pi px m, fun J H σ g M P xw Q d rg h c cx => so J H σ g M _ xw _ d rg h (fun r v J1 H1 M1 p1 e1 d1 r1 => ?_) cx⟩
  obtain ⟨⟨a, kvs, rfl, hM⟩, p1⟩ := p1
  cases r1
  obtain ⟨ws, h4, h5⟩ := d1.mo _ _ hM
  refine ⟨a, rfl, .inl ⟨ws, .inl h4⟩, si J1 H1 σ g M1 _ xw _ d1 (rg.mono e1) p1 (fun y u J2 H2 M2 p2 e2 d2 r2 => ?_) (cx.mono e1)⟩
  refine sx J2 H2 σ g M2 _ xw _ d2 ((rg.mono e1).mono e2) p2 (fun z t J3 H3 M3 p3 e3 d3 r3 => ?_) ((cx.mono e1).mono e2)
  split at p3
  · rename_i b k q1 ek
    cases q1
    obtain ⟨kvs', h1, h3⟩ := p3
    obtain ⟨ws', h6, h7⟩ := d3.mo _ _ h1
    rw [keyOf_rv (r2.mono e3) ek]
    exact ⟨_, DGet.k h6, c _ _ J3 H3 M3 h3 ((e1.trans e2).trans e3) d3 (val_getD h7 r3)⟩
  · exact p3.elim
end
theorem KRV.mem {K : PySem.W.Frag} {J : Jp} : ∀ {ks : List (Key × R)} {ws : List (Key × V)}, KRV K J ks ws → ∀ q ∈ ws, ∃ p ∈ ks, p.1 = q.1 ∧ RV K J p.2 q.2
  | _, _, .nil, q, h => absurd h List.not_mem_nil
  | _, _, .cons a t, q, h => by
    rcases List.mem_cons.mp h with rfl | h'
    · exact ⟨_, List.mem_cons_self, a⟩
    · obtain ⟨p, hp, e⟩ := KRV.mem t q h'
      exact ⟨p, List.mem_cons_of_mem _ hp, e⟩
end DL
set_option Elab.async false
set_option linter.all false
set_option maxRecDepth 100000
set_option maxHeartbeats 2000000
set_option autoImplicit false
namespace DL
open PySem PySem.Spec L2
open PyProof.Rows hiding St
def bitSum (g : Nat → Bool) : Nat → Nat
  | 0 => 0
  | w + 1 => bitSum g w + if g w = true then 2 ^ w else 0
end DL
set_option Elab.async false
set_option linter.all false
set_option maxRecDepth 100000
set_option maxHeartbeats 4000000
set_option autoImplicit false
namespace DL
open PySem PySem.Spec L2
open PyProof.Rows hiding St
section
variable {prog : Program} {w : World} {A : Around} {R : Result → Shared → Prop} {E : Value → Shared → Prop} {s : Shared}
def LS (h : Heap) (a : Addr) (xs : List Value) : Prop := ∃ n dd sl, h.get? a = some ({ cls := .type "list", dict := dd, data := .seq xs.toArray n, slots := sl } : Obj)
theorem LS.at {h h' : Heap} {a : Addr} {xs : List Value} (x : LS h a xs) (k : ∀ o, h.get? a = some o → h'.get? a = some o) : LS h' a xs := let ⟨n, dd, sl, e⟩ := x; ⟨n, dd, sl, k _ e⟩
theorem LS.add {t b : Addr} {xs ys : List Value} {Q : Value → Shared → Prop} (x : LS s.heap t xs) (y : LS s.heap b ys) (hz : xs.length + ys.length ≤ sizeLine) (h : Q (.ref s.heap.objs.size) { s with heap := s.heap.push { cls := .type "list", data := .seq (xs ++ ys).toArray } }) :
    wpAny (model prog w) A (binaryOp .Add (.ref t) (.ref b)) Q E s := by
  obtain ⟨n, dd, sl, e⟩ := x
  obtain ⟨n2, dd2, sl2, e2⟩ := y
  refine concat_meets ⟨_, e, rfl⟩ ⟨_, e2, rfl⟩ noFill_list_add seq_list_add PySem.F.slot_list_add PySem.F.entry_list_add (PySem.F.args_list_add_2 _ _) (PyProof.Rows.list_addW t b xs.toArray ys.toArray n n2 dd dd2 sl sl2 (by simpa using hz)) ⟨e, e2, ?_⟩
  have ea : xs.toArray ++ ys.toArray = (xs ++ ys).toArray := by simp
  show Q (.ref s.heap.objs.size) { s with heap := s.heap.push { cls := .type "list", data := .seq (xs.toArray ++ ys.toArray) } }
  rw [ea]; exact h
end
section
variable {X : Cx}
theorem refs_vals : ∀ {bs : List Addr} {us : List Value}, Vals (bs.map V.ref) us → us = bs.map Value.ref
  | [], _, .nil => rfl
  | b :: bs, _, .cons r t => by
    cases r
    rw [refs_vals t]; rfl
end
section
variable {X : Cx} {W : WW} {pos : Pos}
/-- a list that stands, times an int -/
def dRep : D2 := fun x y M P => match x, y with
  | .lst rs, .int k => -(2 ^ 63) ≤ k ∧ k < 2 ^ 63 ∧ rs.length * k.toNat ≤ sizeLine ∧ P (.lst (List.replicate k.toNat rs).flatten) M
  | _, _ => False
theorem rep_rv {K : PySem.W.Frag} {J : Jp} {rs : List R} {vs : List V} (h : RVs K J rs vs) : ∀ k : Nat, RVs K J (List.replicate k rs).flatten (List.replicate k vs).flatten
  | 0 => .nil
  | k + 1 => by
    rw [List.replicate_succ, List.replicate_succ, List.flatten_cons, List.flatten_cons]
    exact h.app (rep_rv h k)
theorem sim_rep {K : PySem.W.Frag} : Sim2 K rRep dRep := by
  intro J H M x y v u P Q d rx ry h c
  unfold dRep at h
  split at h
  · obtain ⟨h1, h2, h3, p⟩ := h
    cases ry
    cases rx with
    | lst q1 q2 => exact ⟨_, _, _, rfl, rfl, d.ex _ _ q1, h1, h2, by rw [← q2.len]; exact h3, newL d c p (rep_rv q2 _)⟩
  · exact h.elim
end
end DL
set_option Elab.async false
set_option linter.all false
set_option maxRecDepth 100000
set_option maxHeartbeats 2000000
set_option autoImplicit false
namespace DL
open PySem PySem.Spec L2
open PyProof.Rows hiding St
/-- what a bit may be: 0, 1 -/
abbrev BB := Bool × Bool
def al (b : BB) (v : Bool) : Bool := if v = true then b.2 else b.1
abbrev BD := Nat → BB
/-- each bit may be something -/
def Vd (w : Nat) (D : BD) : Prop := ∀ k, k < w → (D k).1 = true ∨ (D k).2 = true
def fctB (w : Nat) (D : BD) : F2 := (bitSum (fun k => (D k).1 && !(D k).2) w, bitSum (fun k => !(D k).1 && (D k).2) w)
theorem bitSum_lt (f : Nat → Bool) : ∀ w, bitSum f w < 2 ^ w
  | 0 => by show 0 < 2 ^ 0; decide
  | w + 1 => by
    have := bitSum_lt f w
    have e : 2 ^ (w + 1) = 2 * 2 ^ w := by rw [Nat.pow_succ, Nat.mul_comm]
    show bitSum f w + (if f w = true then 2 ^ w else 0) < 2 ^ (w + 1)
    split <;> omega
theorem bitSum_bit (f : Nat → Bool) (k : Nat) : ∀ w, (bitSum f w).testBit k = (decide (k < w) && f k)
  | 0 => by
    rw [decide_eq_false (Nat.not_lt_zero k), Bool.false_and]
    exact Nat.zero_testBit k
  | w + 1 => by
    have l := bitSum_lt f w
    have ih := bitSum_bit f k w
    show (bitSum f w + (if f w = true then 2 ^ w else 0)).testBit k = _
    by_cases q : f w = true
    · have e := Nat.two_pow_add_eq_or_of_lt l 1
      rw [Nat.mul_one] at e
      rw [if_pos q, Nat.add_comm, e, Nat.testBit_or, ih, Nat.testBit_two_pow]
      by_cases h : k = w
      · rw [h, q, decide_eq_true rfl, decide_eq_true (Nat.lt_succ_self w)]; simp
      · by_cases h2 : k < w
        · rw [decide_eq_false (fun z => h z.symm), decide_eq_true h2, decide_eq_true (by omega), Bool.false_or]
        · rw [decide_eq_false (fun z => h z.symm), decide_eq_false h2, decide_eq_false (by omega), Bool.false_or]
    · rw [if_neg q, Nat.add_zero, ih]
      by_cases h : k = w
      · rw [h, (Bool.eq_false_iff.mpr q : f w = false), Bool.and_false, Bool.and_false]
      · by_cases h2 : k < w
        · rw [decide_eq_true h2, decide_eq_true (by omega)]
        · rw [decide_eq_false h2, decide_eq_false (by omega)]
/-- a choice for each bit -/
def Ch (w : Nat) (D : BD) (f : Nat → Bool) : Prop := ∀ k, k < w → al (D k) (f k) = true
theorem Ch.set {w : Nat} {D : BD} {f : Nat → Bool} (h : Ch w D f) {k : Nat} {v : Bool} (hv : al (D k) v = true) : Ch w D (fun j => if j = k then v else f j) := fun j hj => by
  show al (D j) (if j = k then v else f j) = true
  split
  · rename_i e; rw [e]; exact hv
  · exact h j hj
/-- what each bit of what comes may be -/
structure BEx (w : Nat) (S : Nat → Prop) (D : BD) : Prop where
  n : ∃ y, S y
  b : ∀ k, k < w → ∀ v, al (D k) v = true ↔ ∃ y, S y ∧ y.testBit k = v
theorem BEx.exact {w : Nat} {S : Nat → Prop} {D : BD} (h : BEx w S D) : Exact w S (fctB w D) := by
  refine ⟨bitSum_lt _ _, bitSum_lt _ _, fun k hk => ?_, fun k hk => ?_⟩
  · have h1 : (fctB w D).1.testBit k = (decide (k < w) && ((D k).1 && !(D k).2)) := bitSum_bit _ _ _
    rw [h1, decide_eq_true hk, Bool.true_and, Bool.and_eq_true, Bool.not_eq_true']
    have b0 := h.b k hk false
    have b1 := h.b k hk true
    constructor
    · rintro ⟨_, q⟩ y hy
      cases e : y.testBit k with
      | false => rfl
      | true => have := b1.mpr ⟨y, hy, e⟩; rw [show al (D k) true = (D k).2 from rfl, q] at this; exact this.symm
    · intro q
      obtain ⟨y, hy⟩ := h.n
      refine ⟨b0.mpr ⟨y, hy, q y hy⟩, Bool.eq_false_iff.mpr fun z => ?_⟩
      obtain ⟨y, hy, e⟩ := b1.mp z
      rw [q y hy] at e; cases e
  · have h1 : (fctB w D).2.testBit k = (decide (k < w) && (!(D k).1 && (D k).2)) := bitSum_bit _ _ _
    rw [h1, decide_eq_true hk, Bool.true_and, Bool.and_eq_true, Bool.not_eq_true']
    have b0 := h.b k hk false
    have b1 := h.b k hk true
    constructor
    · rintro ⟨q, _⟩ y hy
      cases e : y.testBit k with
      | true => rfl
      | false => have := b0.mpr ⟨y, hy, e⟩; rw [show al (D k) false = (D k).1 from rfl, q] at this; exact this
    · intro q
      obtain ⟨y, hy⟩ := h.n
      refine ⟨Bool.eq_false_iff.mpr fun z => ?_, b1.mpr ⟨y, hy, q y hy⟩⟩
      obtain ⟨y, hy, e⟩ := b0.mp z
      rw [q y hy] at e; cases e
theorem BEx.vd {w : Nat} {S : Nat → Prop} {D : BD} (h : BEx w S D) : Vd w D := fun k hk => by
  obtain ⟨y, hy⟩ := h.n
  have := (h.b k hk (y.testBit k)).mpr ⟨y, hy, rfl⟩
  unfold al at this
  split at this
  · exact .inr this
  · exact .inl this
end DL
set_option Elab.async false
set_option linter.all false
set_option maxRecDepth 100000
set_option maxHeartbeats 2000000
set_option autoImplicit false
namespace DL
open PySem PySem.Spec L2
open PyProof.Rows hiding St
/-- what is carried: its run, all that it may be -/
def run (φ : Bool → Bool → Bool → Bool) (f g : Nat → Bool) : Nat → Bool
  | 0 => false
  | k + 1 => φ (f k) (g k) (run φ f g k)
end DL
set_option Elab.async false
set_option linter.all false
set_option maxRecDepth 100000
set_option maxHeartbeats 2000000
set_option autoImplicit false
namespace DL
open PySem PySem.Spec L2
open PyProof.Rows hiding St
section
variable {X : Cx} {W : WW} {pos : Pos}
def sBrk : WS := fun D g M => D.bk g M
theorem ds_brk : DS X W (.Break pos) sBrk := ⟨_, ps_break, fun J H σ g M D E d rg h c => c.bk g σ J H M h Ex.rfl' d rg⟩
end
/-- a contract that asks what is never so -/
theorem dfn_void {P : Program} {w : World} {K : PySem.W.Frag} {mg : Str → Option Value} {base : Heap} {k : Nat} {f : Addr} {fd : FuncData} {N ps : List Str} {x qual : Str} {params : Arguments} {body : List Stmt} {scope : Scope} {dvs : List V} {kws : List (Str × V)} {dsp : DSp}
    (F : FunD K x qual params body scope dvs kws f fd) (S : FnScope N ps scope) (hv : ∀ rs M Q xw, ¬ dsp rs M Q xw) : DFn P w K mg base (k + 1) f fd ps dsp := by
  refine fng_of F S (fun _ _ _ _ h => h.1) fun cdv A outer s H vs Q E hr hg hsp => ?_
  obtain ⟨hl, J, M, rs, Pp, xw, d, rv, hd, c, cx⟩ := hsp
  exact (hv _ _ _ _ hd).elim
section
variable {κ : Type} [DecidableEq κ] {kvs : List (κ × R)} {k j : κ} {v : R}
theorem vcons (p : κ × R) : valR (p :: kvs) j = if p.1 = j then some p.2 else valR kvs j := by
  unfold valR
  rw [List.find?_cons]
  by_cases h : p.1 = j
  · rw [if_pos h, decide_eq_true h]; rfl
  · rw [if_neg h, decide_eq_false h]
theorem vmapPut : ∀ kvs : List (κ × R), valR (kvs.map fun kv => if kv.1 = k then (kv.1, v) else kv) j = if j = k then (if (kvs.any fun kv => decide (kv.1 = k)) = true then some v else none) else valR kvs j
  | [] => by
    show none = _
    split <;> rfl
  | p :: kvs => by
    rw [List.map_cons, vcons, vcons, vmapPut kvs, List.any_cons]
    by_cases h : p.1 = k
    · rw [if_pos h]
      by_cases e : j = k
      · rw [if_pos (by rw [e]; exact h), if_pos e, decide_eq_true h]; rfl
      · rw [if_neg (fun z => e (by rw [← z]; exact h)), if_neg e, if_neg e, if_neg (fun z => e (by rw [← z]; exact h))]
    · rw [if_neg h]
      by_cases e : j = k
      · rw [if_neg (fun z => h (by rw [z]; exact e)), if_pos e, if_pos e, decide_eq_false h, Bool.false_or]
      · rw [if_neg e, if_neg e]
theorem vapp : ∀ kvs : List (κ × R), (kvs.any fun kv => decide (kv.1 = k)) = false → valR (kvs ++ [(k, v)]) j = if j = k then some v else valR kvs j
  | [], _ => by
    show valR [(k, v)] j = _
    rw [vcons]
    by_cases e : j = k
    · rw [if_pos e.symm, if_pos e]
    · rw [if_neg (fun z => e z.symm), if_neg e]
  | p :: kvs, h => by
    rw [List.any_cons, Bool.or_eq_false_iff] at h
    rw [List.cons_append, vcons, vcons, vapp kvs h.2]
    by_cases e : j = k
    · rw [if_neg (fun z => of_decide_eq_false h.1 (by rw [z]; exact e)), if_pos e, if_pos e]
    · rw [if_neg e, if_neg e]
theorem vput (kvs : List (κ × R)) : valR (putR kvs k v) j = if j = k then some v else valR kvs j := by
  unfold putR
  by_cases h : (kvs.any fun kv => decide (kv.1 = k)) = true
  · rw [if_pos h, vmapPut, if_pos h]
  · rw [if_neg h, vapp kvs (Bool.eq_false_iff.mpr h)]
theorem vput_len (kvs : List (κ × R)) (k : κ) (v : R) : (putR kvs k v).length ≤ kvs.length + 1 := by
  unfold putR
  split
  · rw [List.length_map]; omega
  · rw [List.length_append]; exact Nat.le_refl _
end
inductive Rw where
  | set (a : Str) (e : Xp)
  | tell (a : Str)
  | iff (a : Str) (p q : List Rw)
  | rnd (n : Nat) (p : List Rw)
mutual
def Rw.r : Rw → R
  | .set a e => .tup [.str "set", .str a, e.r]
  | .tell a => .tup [.str "tell", .str a]
  | .iff a p q => .tup [.str "if", .str a, .tup (Rw.rl p), .tup (Rw.rl q)]
  | .rnd n p => .tup [.str "round", .int n, .tup (Rw.rl p)]
def Rw.rl : List Rw → List R
  | [] => []
  | x :: xs => x.r :: Rw.rl xs
end
theorem rl_map : ∀ xs : List Rw, Rw.rl xs = xs.map Rw.r
  | [] => rfl
  | x :: xs => by rw [Rw.rl, rl_map xs]; rfl
mutual
/-- how many steps at the most -/
def Rw.st : Rw → Nat
  | .set _ _ => 1
  | .tell _ => 1
  | .iff _ p q => 1 + max (Rw.stl p) (Rw.stl q)
  | .rnd n p => 1 + n * Rw.stl p
def Rw.stl : List Rw → Nat
  | [] => 0
  | x :: xs => x.st + Rw.stl xs
end
mutual
/-- how many rows -/
def Rw.ct : Rw → Nat
  | .set _ _ => 1
  | .tell _ => 1
  | .iff _ p q => 1 + (Rw.ctl p + Rw.ctl q)
  | .rnd _ p => 1 + Rw.ctl p
def Rw.ctl : List Rw → Nat
  | [] => 0
  | x :: xs => x.ct + Rw.ctl xs
end
mutual
/-- rounds twice at the most -/
def Rw.few : Rw → Rw
  | .set a e => .set a e
  | .tell a => .tell a
  | .iff a p q => .iff a (Rw.fewl p) (Rw.fewl q)
  | .rnd n p => .rnd (min 2 n) (Rw.fewl p)
def Rw.fewl : List Rw → List Rw
  | [] => []
  | x :: xs => x.few :: Rw.fewl xs
end
/-- an expression of such names -/
structure XpOk (w : Nat) (ns : List Str) (e : Xp) : Prop where
  ok : e.Ok
  num : e.Num w
  mv : ∀ u a m, e = .mov u a m → m ≤ 11
  ns : ∀ a ∈ e.names, a ∈ ns
mutual
/-- a row of such names, within one another so deep at the most -/
def Rw.Vd (w : Nat) (ns : List Str) : Nat → Rw → Prop
  | _, .set a e => a ∈ ns ∧ XpOk w ns e
  | _, .tell a => a ∈ ns
  | d, .iff a p q => a ∈ ns ∧ 2 ≤ d ∧ Rw.Vdl w ns (d - 1) p ∧ Rw.Vdl w ns (d - 1) q
  | d, .rnd n p => n ≤ 12 ∧ 2 ≤ d ∧ Rw.Vdl w ns (d - 1) p
def Rw.Vdl (w : Nat) (ns : List Str) : Nat → List Rw → Prop
  | _, [] => True
  | d, x :: xs => Rw.Vd w ns d x ∧ Rw.Vdl w ns d xs
end
mutual
/-- the names that are there behind -/
def Rw.th (known : List Str) : Rw → List Str
  | .set a _ => if a ∈ known then known else known ++ [a]
  | .tell _ => known
  | .iff _ p q => (Rw.thl known p).filter fun a => decide (a ∈ Rw.thl known q)
  | .rnd n p => if 0 < n then Rw.thl known p else known
def Rw.thl (known : List Str) : List Rw → List Str
  | [] => known
  | x :: xs => Rw.thl (x.th known) xs
end
mutual
/-- only names that are there are used -/
def Rw.So (known : List Str) : Rw → Prop
  | .set _ e => ∀ a ∈ e.names, a ∈ known
  | .tell a => a ∈ known
  | .iff a p q => a ∈ known ∧ Rw.Sol known p ∧ Rw.Sol known q
  | .rnd _ p => Rw.Sol known p
def Rw.Sol (known : List Str) : List Rw → Prop
  | [] => True
  | x :: xs => Rw.So known x ∧ Rw.Sol (x.th known) xs
end
theorem stl_app : ∀ xs ys : List Rw, Rw.stl (xs ++ ys) = Rw.stl xs + Rw.stl ys
  | [], ys => by rw [List.nil_append, Rw.stl, Nat.zero_add]
  | x :: xs, ys => by rw [List.cons_append, Rw.stl, Rw.stl, stl_app xs, Nat.add_assoc]
theorem ctl_app : ∀ xs ys : List Rw, Rw.ctl (xs ++ ys) = Rw.ctl xs + Rw.ctl ys
  | [], ys => by rw [List.nil_append, Rw.ctl, Nat.zero_add]
  | x :: xs, ys => by rw [List.cons_append, Rw.ctl, Rw.ctl, ctl_app xs, Nat.add_assoc]
theorem vdl_app {w : Nat} {ns : List Str} {d : Nat} : ∀ xs ys : List Rw, Rw.Vdl w ns d (xs ++ ys) ↔ Rw.Vdl w ns d xs ∧ Rw.Vdl w ns d ys
  | [], ys => by rw [List.nil_append, Rw.Vdl]; exact ⟨fun h => ⟨True.intro, h⟩, fun h => h.2⟩
  | x :: xs, ys => by rw [List.cons_append, Rw.Vdl, Rw.Vdl, vdl_app xs]; exact ⟨fun h => ⟨⟨h.1, h.2.1⟩, h.2.2⟩, fun h => ⟨h.1.1, h.1.2, h.2⟩⟩
theorem thl_app : ∀ (xs ys : List Rw) (known : List Str), Rw.thl known (xs ++ ys) = Rw.thl (Rw.thl known xs) ys
  | [], ys, known => by rw [List.nil_append, Rw.thl]
  | x :: xs, ys, known => by rw [List.cons_append, Rw.thl, Rw.thl, thl_app xs]
theorem sol_app : ∀ (xs ys : List Rw) (known : List Str), Rw.Sol known (xs ++ ys) ↔ Rw.Sol known xs ∧ Rw.Sol (Rw.thl known xs) ys
  | [], ys, known => by rw [List.nil_append, Rw.Sol, Rw.thl]; exact ⟨fun h => ⟨True.intro, h⟩, fun h => h.2⟩
  | x :: xs, ys, known => by rw [List.cons_append, Rw.Sol, Rw.Sol, Rw.thl, sol_app xs]; exact ⟨fun h => ⟨⟨h.1, h.2.1⟩, h.2.2⟩, fun h => ⟨h.1.1, h.1.2, h.2⟩⟩
theorem fewl_map : ∀ xs : List Rw, Rw.fewl xs = xs.map Rw.few
  | [] => rfl
  | x :: xs => by rw [Rw.fewl, fewl_map xs]; rfl
mutual
theorem ct_few : ∀ x : Rw, x.few.ct = x.ct
  | .set _ _ => by rw [Rw.few]
  | .tell _ => by rw [Rw.few]
  | .iff _ p q => by rw [Rw.few, Rw.ct, Rw.ct, ctl_few p, ctl_few q]
  | .rnd _ p => by rw [Rw.few, Rw.ct, Rw.ct, ctl_few p]
theorem ctl_few : ∀ xs : List Rw, Rw.ctl (Rw.fewl xs) = Rw.ctl xs
  | [] => by rw [Rw.fewl]
  | x :: xs => by rw [Rw.fewl, Rw.ctl, Rw.ctl, ct_few x, ctl_few xs]
end
mutual
theorem vd_few {w : Nat} {ns : List Str} : ∀ (x : Rw) (d : Nat), Rw.Vd w ns d x → Rw.Vd w ns d x.few
  | .set _ _, d, h => by rw [Rw.few]; exact h
  | .tell _, d, h => by rw [Rw.few]; exact h
  | .iff _ p q, d, h => by
    rw [Rw.few]
    rw [Rw.Vd] at h ⊢
    exact ⟨h.1, h.2.1, vdl_few p _ h.2.2.1, vdl_few q _ h.2.2.2⟩
  | .rnd n p, d, h => by
    rw [Rw.few]
    rw [Rw.Vd] at h ⊢
    exact ⟨by omega, h.2.1, vdl_few p _ h.2.2⟩
theorem vdl_few {w : Nat} {ns : List Str} : ∀ (xs : List Rw) (d : Nat), Rw.Vdl w ns d xs → Rw.Vdl w ns d (Rw.fewl xs)
  | [], d, h => by rw [Rw.fewl]; exact h
  | x :: xs, d, h => by
    rw [Rw.fewl]
    rw [Rw.Vdl] at h ⊢
    exact ⟨vd_few x d h.1, vdl_few xs d h.2⟩
end
mutual
theorem th_few : ∀ (x : Rw) (known : List Str), x.few.th known = x.th known
  | .set _ _, known => by rw [Rw.few]
  | .tell _, known => by rw [Rw.few]
  | .iff _ p q, known => by rw [Rw.few, Rw.th, Rw.th, thl_few p, thl_few q]
  | .rnd n p, known => by
    rw [Rw.few, Rw.th, Rw.th, thl_few p]
    by_cases h : 0 < n
    · rw [if_pos h, if_pos (by omega)]
    · rw [if_neg h, if_neg (by omega)]
theorem thl_few : ∀ (xs : List Rw) (known : List Str), Rw.thl known (Rw.fewl xs) = Rw.thl known xs
  | [], known => by rw [Rw.fewl]
  | x :: xs, known => by rw [Rw.fewl, Rw.thl, Rw.thl, th_few x, thl_few xs]
end
mutual
theorem so_few : ∀ (x : Rw) (known : List Str), x.So known → x.few.So known
  | .set _ _, known, h => by rw [Rw.few]; exact h
  | .tell _, known, h => by rw [Rw.few]; exact h
  | .iff _ p q, known, h => by
    rw [Rw.few]
    rw [Rw.So] at h ⊢
    exact ⟨h.1, sol_few p _ h.2.1, sol_few q _ h.2.2⟩
  | .rnd n p, known, h => by
    rw [Rw.few]
    rw [Rw.So] at h ⊢
    exact sol_few p _ h
theorem sol_few : ∀ (xs : List Rw) (known : List Str), Rw.Sol known xs → Rw.Sol known (Rw.fewl xs)
  | [], known, h => by rw [Rw.fewl]; exact h
  | x :: xs, known, h => by
    rw [Rw.fewl]
    rw [Rw.Sol] at h ⊢
    rw [th_few]
    exact ⟨so_few x _ h.1, sol_few xs _ h.2⟩
end
mutual
/-- with few rounds a row has few steps -/
theorem st_few {w : Nat} {ns : List Str} : ∀ (x : Rw) (d : Nat), Rw.Vd w ns (d + 1) x → x.few.st ≤ x.ct * 2 ^ d
  | .set _ _, d, h => by
    rw [Rw.few, Rw.st, Rw.ct, Nat.one_mul]; exact Nat.two_pow_pos d
  | .tell _, d, h => by
    rw [Rw.few, Rw.st, Rw.ct, Nat.one_mul]; exact Nat.two_pow_pos d
  | .iff _ p q, 0, h => by
    rw [Rw.Vd] at h; omega
  | .iff _ p q, d + 1, h => by
    rw [Rw.Vd] at h
    have h1 := stl_few p d h.2.2.1
    have h2 := stl_few q d h.2.2.2
    rw [Rw.few, Rw.st, Rw.ct, Nat.add_mul, Nat.add_mul, Nat.pow_succ]
    have := Nat.two_pow_pos d
    have e1 : Rw.ctl p * (2 ^ d * 2) = 2 * (Rw.ctl p * 2 ^ d) := by rw [← Nat.mul_assoc, Nat.mul_comm]
    have e2 : Rw.ctl q * (2 ^ d * 2) = 2 * (Rw.ctl q * 2 ^ d) := by rw [← Nat.mul_assoc, Nat.mul_comm]
    rw [e1, e2]
    omega
  | .rnd n p, 0, h => by
    rw [Rw.Vd] at h; omega
  | .rnd n p, d + 1, h => by
    rw [Rw.Vd] at h
    have h1 := stl_few p d h.2.2
    rw [Rw.few, Rw.st, Rw.ct, Nat.add_mul, Nat.pow_succ]
    have := Nat.two_pow_pos d
    have e1 : Rw.ctl p * (2 ^ d * 2) = 2 * (Rw.ctl p * 2 ^ d) := by rw [← Nat.mul_assoc, Nat.mul_comm]
    have e3 : min 2 n * Rw.stl (Rw.fewl p) ≤ 2 * (Rw.ctl p * 2 ^ d) := Nat.mul_le_mul (by omega) h1
    rw [e1]
    omega
theorem stl_few {w : Nat} {ns : List Str} : ∀ (xs : List Rw) (d : Nat), Rw.Vdl w ns (d + 1) xs → Rw.stl (Rw.fewl xs) ≤ Rw.ctl xs * 2 ^ d
  | [], d, h => by rw [Rw.fewl, Rw.stl]; exact Nat.zero_le _
  | x :: xs, d, h => by
    rw [Rw.Vdl] at h
    have h1 := st_few x d h.1
    have h2 := stl_few xs d h.2
    rw [Rw.fewl, Rw.stl, Rw.ctl, Nat.add_mul]
    omega
end
end DL
set_option Elab.async false
set_option linter.all false
set_option maxRecDepth 100000
set_option maxHeartbeats 2000000
set_option autoImplicit false
namespace DL
open PySem PySem.Spec L2
open PyProof.Rows hiding St
section
variable {X : Cx} {W : WW} {pos : Pos}
theorem sim_chain {K : PySem.W.Frag} {r r' : R2} {f f' : D2} {ta tb tc : TE} {wa wb wc : WE} (s : Sim2 K r f) (s' : Sim2 K r' f') (sa : Sim K W ta wa) (sb : Sim K W tb wb) (sc : Sim K W tc wc) : Sim K W (tChain r r' ta tb tc) (wChain f f' wa wb wc) := by
  refine fun J H σ g M P xw Q d rg h c cx => sa J H σ g M _ xw _ d rg h (fun x v J1 H1 M1 p1 e1 d1 r1 => ?_) cx
  refine sb J1 H1 σ g M1 _ xw _ d1 (rg.mono e1) p1 (fun y u J2 H2 M2 p2 e2 d2 r2 => ?_) (cx.mono e1)
  refine s J2 H2 M2 x y v u _ _ d2 (r1.mono e2) r2 p2 fun k kv J3 H3 M3 p3 e3 d3 r3 => ?_
  unfold ofB at p3
  split at p3
  · rename_i b
    cases r3
    refine ⟨b, rfl, ?_⟩
    cases b with
    | true =>
      rw [if_pos rfl]
      refine sc J3 H3 σ g M3 _ xw _ d3 (((rg.mono e1).mono e2).mono e3) (p3.1 rfl) (fun z w J4 H4 M4 p4 e4 d4 r4 => ?_) (((cx.mono e1).mono e2).mono e3)
      exact s' J4 H4 M4 y z u w P Q d4 ((r2.mono e3).mono e4) r4 p4 ((((c.mono e1).mono e2).mono e3).mono e4)
    | false =>
      rw [if_neg Bool.false_ne_true]
      exact (((c.mono e1).mono e2)) (.bl false) _ J3 H3 M3 (p3.2 rfl) e3 d3 (.bl _)
  · exact p3.elim
theorem dt_chain {op op' : CmpOp} {r r' : R2} {f f' : D2} {a b e : Expr} {wa wb wc : WE} (ho : OpR X (compareOp op) r) (ho' : OpR X (compareOp op') r') (s : Sim2 X.K r f) (s' : Sim2 X.K r' f') (ha : DE X W a wa) (hb : DE X W b wb) (hc : DE X W e wc)
    (hm : lastMarks [op, op'] [b, e] = false := by with_unfolding_all rfl) : DT X W (.Compare a [op, op'] [b, e] pos) (wTest (wChain f f' wa wb wc)) := by
  obtain ⟨ta, pa, sa⟩ := ha
  obtain ⟨tb, pb, sb⟩ := hb
  obtain ⟨tc, pc, sc⟩ := hc
  exact ⟨_, pt_chain ho ho' pa pb pc hm, sim_test (sim_chain s s' sa sb sc)⟩
def wPop (wo : WE) : WE := fun g M P xw => wo g M (fun x M1 => match x with
  | .o a => ∃ rs r, M1 a = some (.lst (rs ++ [r])) ∧ P r (updM M1 a (.lst rs))
  | _ => False) xw
theorem RVs.snoc {K : PySem.W.Frag} {J : Jp} {r : R} : ∀ {rs : List R} {vs : List V}, RVs K J (rs ++ [r]) vs → ∃ us v, vs = us ++ [v] ∧ RVs K J rs us ∧ RV K J r v
  | [], _, .cons h .nil => ⟨[], _, rfl, .nil, h⟩
  | _ :: rs, _, .cons h t => by
    obtain ⟨us, v, rfl, h1, h2⟩ := RVs.snoc t
    exact ⟨_ :: us, v, rfl, .cons h h1, h2⟩
theorem de_pop {o : Expr} {apos : Pos} {wo : WE} (ho : DE X W o wo) (hbase : attributeBase o "pop" X.env (eval o X.env) = eval o X.env := by rfl) (hline : (apos.endLine == pos.line) = true := by rfl) :
    DE X W (.Call (.Attribute o "pop" apos) [] [] pos) (wPop wo) := by
  obtain ⟨to, po, so⟩ := ho
  refine ⟨_, pe_bm0 PySem.F.plainAttrs_list PySem.F.slot_list_pop PySem.F.type_list_pop mt_pop po hbase hline, fun J H σ g M P xw Q d rg h cc cx => so J H σ g M _ xw _ d rg h (fun x v J1 H1 M1 p1 e1 d1 r1 => ?_) cx⟩
  cases r1 with
  | o a =>
    obtain ⟨rs, r, h1, h2⟩ := p1
    obtain ⟨vs, h4, h5⟩ := d1.mo _ _ h1
    obtain ⟨us, u, rfl, h6, h7⟩ := h5.snoc
    exact ⟨.inl ⟨rfl, _, .inl (.inl h4)⟩, a, _, u, rfl, rfl, h4, by simp, cc _ _ J1 _ _ h2 e1 (by rw [List.dropLast_concat]; exact d1.put h1 ⟨us, upd_same, h6⟩) h7⟩
  | _ => exact p1.elim
end
end DL
set_option Elab.async false
set_option linter.all false
set_option maxRecDepth 100000
set_option maxHeartbeats 2000000
set_option autoImplicit false
namespace DL
open PySem PySem.Spec L2
open PyProof.Rows hiding St
def pairI (x : Str) (p q : Nat) : Int :=
  if x = "add" then ((p + q : Nat) : Int) else if x = "less" then (p : Int) - q else if x = "and" then ((p &&& q : Nat) : Int) else if x = "or" then ((p ||| q : Nat) : Int)
  else if x = "unlike" then ((p ^^^ q : Nat) : Int) else if x = "same" then (if p = q then 1 else 0) else (if p < q then 1 else 0)
/-- what an expression comes to, ahead of its cut -/
def Xp.ev (env : Str → Nat) : Xp → Int
  | .num n => (n : Int)
  | .cop a => (env a : Int)
  | .mov u a m => if u = true then ((env a * 2 ^ m : Nat) : Int) else ((env a / 2 ^ m : Nat) : Int)
  | .pic a b c => if env a = 0 then (env c : Int) else (env b : Int)
  | .par x a b => pairI x (env a) (env b)
structure Gs where
  env : Str → Nat
  told : List Nat
  trail : List (Nat × Nat)
  lost : List Nat
def upS (env : Str → Nat) (a : Str) (v : Nat) : Str → Nat := fun b => if b = a then v else env b
def lossy (w : Nat) (i : Int) : Bool := !(decide (0 ≤ i) && decide (i < 2 ^ w))
def setG (w k : Nat) (a : Str) (i : Int) (pl : Nat) (s : Gs) : Gs :=
  ⟨upS s.env a (i % 2 ^ k).toNat, s.told, s.trail ++ [(pl, (i % 2 ^ k).toNat)], if lossy w i = true then s.lost ++ [pl] else s.lost⟩
def tellG (a : Str) (pl : Nat) (s : Gs) : Gs := ⟨s.env, s.told ++ [s.env a], s.trail ++ [(pl, s.env a)], s.lost⟩
def askG (a : Str) (pl : Nat) (s : Gs) : Gs := ⟨s.env, s.told, s.trail ++ [(pl, s.env a)], s.lost⟩
def iterG (f : Gs → Gs) : Nat → Gs → Gs
  | 0, s => s
  | n + 1, s => f (iterG f n s)
mutual
def Rw.go (w : Nat) (kp : Nat → Nat) : Rw → Nat → Gs → Gs
  | .set a e, pl, s => setG w (kp pl) a (e.ev s.env) pl s
  | .tell a, pl, s => tellG a pl s
  | .iff a p q, pl, s => if s.env a = 0 then Rw.gol w kp q (pl + 1 + Rw.ctl p) (askG a pl s) else Rw.gol w kp p (pl + 1) (askG a pl s)
  | .rnd n p, pl, s => iterG (fun s => Rw.gol w kp p (pl + 1) s) n s
def Rw.gol (w : Nat) (kp : Nat → Nat) : List Rw → Nat → Gs → Gs
  | [], _, s => s
  | x :: xs, pl, s => Rw.gol w kp xs (pl + x.ct) (x.go w kp pl s)
end
section
variable {w : Nat} {kp : Nat → Nat}
theorem ctl_take {xs : List Rw} {i : Nat} {x : Rw} (h : xs[i]? = some x) : Rw.ctl (xs.take (i + 1)) = Rw.ctl (xs.take i) + x.ct := by
  rw [List.take_succ, h, ctl_app]
  show _ + Rw.ctl [x] = _
  rw [Rw.ctl, Rw.ctl]; rfl
theorem thl_take {xs : List Rw} {i : Nat} {x : Rw} (h : xs[i]? = some x) (known : List Str) : Rw.thl known (xs.take (i + 1)) = x.th (Rw.thl known (xs.take i)) := by
  rw [List.take_succ, h, thl_app]
  show Rw.thl _ [x] = _
  rw [Rw.thl, Rw.thl]
theorem ctl_take_le (xs : List Rw) (i : Nat) : Rw.ctl (xs.take i) ≤ Rw.ctl xs := by
  have := ctl_app (xs.take i) (xs.drop i)
  rw [List.take_append_drop] at this
  omega
end
structure WdOk (n : Nat) (known : List Str) (env : Str → Nat) (kvs : List (Key × R)) : Prop where
  at' : ∀ a ∈ known, valR kvs (.inr a) = some (.int (env a : Nat))
  ln : kvs.length ≤ n
  ks : ∀ kv ∈ kvs, ∃ a, kv.1 = .inr a ∧ kv.2 = .int (env a : Nat)
  nd : (kvs.map (·.1)).Nodup
theorem WdOk.sub {n : Nat} {known known' : List Str} {env : Str → Nat} {kvs : List (Key × R)} (h : WdOk n known env kvs) (s : ∀ a ∈ known', a ∈ known) : WdOk n known' env kvs := ⟨fun a ha => h.at' a (s a ha), h.ln, h.ks, h.nd⟩
theorem WdOk.put {n : Nat} {known : List Str} {env : Str → Nat} {kvs : List (Key × R)} (h : WdOk n known env kvs) (a : Str) (v : Nat) : WdOk (n + 1) (if a ∈ known then known else known ++ [a]) (upS env a v) (putR kvs (.inr a) (.int (v : Nat))) := by
  refine ⟨fun b hb => ?_, Nat.le_trans (vput_len ..) (Nat.succ_le_succ h.ln), fun kv hkv => ?_, ?_⟩
  · rw [vput]
    unfold upS
    by_cases e : b = a
    · rw [if_pos (by rw [e]), if_pos e]
    · rw [if_neg (fun z => e (Sum.inr.inj z)), if_neg e]
      refine h.at' b ?_
      split at hb
      · exact hb
      · rcases List.mem_append.mp hb with hb | hb
        · exact hb
        · exact absurd (List.mem_singleton.mp hb) e
  · unfold putR at hkv
    by_cases q : (kvs.any fun kv => decide (kv.1 = (.inr a : Key))) = true
    · rw [if_pos q] at hkv
      obtain ⟨k0, h0, rfl⟩ := List.mem_map.mp hkv
      obtain ⟨b, h1, h2⟩ := h.ks k0 h0
      by_cases e : k0.1 = (.inr a : Key)
      · rw [if_pos e]
        exact ⟨a, e, by show R.int (v : Nat) = _; unfold upS; rw [if_pos rfl]⟩
      · rw [if_neg e]
        refine ⟨b, h1, ?_⟩
        unfold upS
        rw [if_neg (fun z => e (by rw [h1, z])), h2]
    · rw [if_neg q] at hkv
      rcases List.mem_append.mp hkv with h0 | h0
      · obtain ⟨b, h1, h2⟩ := h.ks kv h0
        refine ⟨b, h1, ?_⟩
        unfold upS
        rw [if_neg (fun z => q (List.any_eq_true.mpr ⟨kv, h0, decide_eq_true (by rw [h1, z])⟩)), h2]
      · rw [List.mem_singleton.mp h0]
        exact ⟨a, rfl, by unfold upS; rw [if_pos rfl]⟩
  · unfold putR
    by_cases q : (kvs.any fun kv => decide (kv.1 = (.inr a : Key))) = true
    · rw [if_pos q, List.map_map]
      have e : (kvs.map ((·.1) ∘ fun kv => if kv.1 = (.inr a : Key) then (kv.1, R.int (v : Nat)) else kv)) = kvs.map (·.1) := List.map_congr_left fun kv _ => by
        show (if kv.1 = (.inr a : Key) then (kv.1, R.int (v : Nat)) else kv).1 = kv.1
        split <;> rfl
      rw [e]; exact h.nd
    · rw [if_neg q, List.map_append, List.nodup_append]
      refine ⟨h.nd, by simp, fun x hx y hy e => q ?_⟩
      obtain ⟨kv, h1, h2⟩ := List.mem_map.mp hx
      rw [List.mem_singleton.mp hy] at e
      exact List.any_eq_true.mpr ⟨kv, h1, decide_eq_true (h2.trans e)⟩
/-- the rows within a row -/
def Rw.inn : Rw → List (List Rw)
  | .iff _ p q => [p, q]
  | .rnd _ p => [p]
  | _ => []
/-- a name: one to eight small letters -/
structure NameOk (s : Str) : Prop where
  lo : 1 ≤ s.length
  hi : s.length ≤ 8
  cs : ∀ c ∈ s.cps.toList, 97 ≤ c ∧ c ≤ 122
def progR (w : Nat) (ns : List Str) (xs : List Rw) : R := .tup [.int (w : Int), .tup (ns.map R.str), .tup (Rw.rl xs)]
mutual
/-- how many rounds within one another -/
def Rw.tr : Rw → Nat
  | .set _ _ => 0
  | .tell _ => 0
  | .iff _ p q => max (Rw.trl p) (Rw.trl q)
  | .rnd _ p => Rw.trl p + 1
def Rw.trl : List Rw → Nat
  | [] => 0
  | x :: xs => max x.tr (Rw.trl xs)
end
mutual
theorem tr_le {w : Nat} {ns : List Str} : ∀ (x : Rw) (d : Nat), Rw.Vd w ns d x → x.tr ≤ d - 1
  | .set _ _, d, _ => by rw [Rw.tr]; exact Nat.zero_le _
  | .tell _, d, _ => by rw [Rw.tr]; exact Nat.zero_le _
  | .iff _ p q, d, h => by
    rw [Rw.Vd] at h
    have := trl_le p (d - 1) h.2.2.1
    have := trl_le q (d - 1) h.2.2.2
    rw [Rw.tr]; omega
  | .rnd _ p, d, h => by
    rw [Rw.Vd] at h
    have := trl_le p (d - 1) h.2.2
    rw [Rw.tr]; omega
theorem trl_le {w : Nat} {ns : List Str} : ∀ (xs : List Rw) (d : Nat), Rw.Vdl w ns d xs → Rw.trl xs ≤ d - 1
  | [], d, _ => by rw [Rw.trl]; exact Nat.zero_le _
  | x :: xs, d, h => by
    rw [Rw.Vdl] at h
    have := tr_le x d h.1
    have := trl_le xs d h.2
    rw [Rw.trl]; omega
end
theorem trl_mem : ∀ {xs : List Rw} {x : Rw}, x ∈ xs → x.tr ≤ Rw.trl xs
  | y :: ys, x, h => by
    rw [Rw.trl]
    rcases List.mem_cons.mp h with rfl | h
    · exact Nat.le_max_left ..
    · have := trl_mem h; omega
theorem trl_inn {x : Rw} {q : List Rw} (h : q ∈ x.inn) : Rw.trl q ≤ x.tr := by
  cases x with
  | set a e => cases h
  | tell a => cases h
  | iff a p r =>
    rw [Rw.inn] at h
    rw [Rw.tr]
    simp only [List.mem_cons, List.not_mem_nil, or_false] at h
    rcases h with rfl | rfl
    · exact Nat.le_max_left ..
    · exact Nat.le_max_right ..
  | rnd k p =>
    rw [Rw.inn] at h
    rw [Rw.tr, List.mem_singleton.mp h]
    exact Nat.le_succ _
structure PgOk (w : Nat) (names ns : List Str) (xs : List Rw) : Prop where
  w1 : 1 ≤ w
  w2 : w ≤ 12
  nm : ∀ s ∈ names, NameOk s
  nn : names.length ≤ 7
  sub : ∀ s ∈ ns, s ∈ names
  nd : ns.Nodup
  nl : ns.length ≤ 4
  vd : Rw.Vdl w names 6 xs
  tr : Rw.trl xs ≤ 3
  so : Rw.Sol ns xs
  ct : Rw.ctl xs ≤ 60
  st : Rw.stl xs ≤ 2000
theorem cutTake {rs : List R} {k : Nat} (h : k ≤ rs.length) : cutR rs none (some (k : Int)) = rs.take k := by
  unfold cutR
  rw [HT.sIx_none, HT.sIx_nat, List.drop_zero, Nat.sub_zero, Nat.min_eq_left h]
theorem cutDrop {rs : List R} {m : Nat} (h : m ≤ rs.length) : cutR rs (some (m : Int)) none = rs.drop m := by
  unfold cutR
  rw [HT.sIx_none, HT.sIx_nat, Nat.min_eq_left h]
  exact List.take_of_length_le (by rw [List.length_drop]; exact Nat.le_refl _)
theorem sol_tells {th : List Str} : ∀ {us : List Str}, (∀ u ∈ us, u ∈ th) → Rw.Sol th (us.map Rw.tell)
  | [], _ => True.intro
  | u :: us, h => by
    rw [List.map_cons, Rw.Sol, Rw.So, Rw.th]
    exact ⟨h u List.mem_cons_self, sol_tells fun x hx => h x (List.mem_cons_of_mem _ hx)⟩
theorem vdl_tells {w d : Nat} {names : List Str} : ∀ {us : List Str}, (∀ u ∈ us, u ∈ names) → Rw.Vdl w names d (us.map Rw.tell)
  | [], _ => True.intro
  | u :: us, h => by
    rw [List.map_cons, Rw.Vdl, Rw.Vd]
    exact ⟨h u List.mem_cons_self, vdl_tells fun x hx => h x (List.mem_cons_of_mem _ hx)⟩
theorem ctl_tells : ∀ us : List Str, Rw.ctl (us.map Rw.tell) = us.length
  | [] => rfl
  | u :: us => by rw [List.map_cons, Rw.ctl, Rw.ct, ctl_tells us, List.length_cons, Nat.add_comm]
theorem stl_tells : ∀ us : List Str, Rw.stl (us.map Rw.tell) = us.length
  | [] => rfl
  | u :: us => by rw [List.map_cons, Rw.stl, Rw.st, stl_tells us, List.length_cons, Nat.add_comm]
theorem rl_tells (us : List Str) : Rw.rl (us.map Rw.tell) = us.map fun u => R.tup [.str "tell", .str u] := by
  rw [rl_map, List.map_map]
  exact List.map_congr_left fun u _ => by
    show (Rw.tell u).r = _
    rw [Rw.r]
end DL
set_option Elab.async false
set_option linter.all false
set_option maxRecDepth 100000
set_option maxHeartbeats 2000000
set_option autoImplicit false
namespace DL
open PySem
open PySem.Sem (wp)
/-- a walk whose next is told: over l, its items, where it stands -/
structure ItK (prog : Program) (w : World) (l : Addr) (items : Array Value) (st : Heap → Addr → Nat → Prop) : Prop where
  item : ∀ {A : Around} {E : Value → Shared → Prop} {s : Shared} {it : Addr} {i : Nat} {x : Value} {Q : Value → Shared → Prop}, st s.heap it i → items[i]? = some x → (∀ h', st h' it (i + 1) → Heap.SameBut it s.heap h' → Q x { s with heap := h' }) →
    wpAny (model prog w) A (Builtin.SmallTypes.nextOf (.ref it)) Q E s
  done : ∀ {A : Around} {E : Value → Shared → Prop} {s : Shared} {it : Addr} {i : Nat} {Q : Value → Shared → Prop}, A.handled = none → st s.heap it i → items[i]? = none →
    (∀ h' e, Heap.ExtBut it s.heap h' → (∃ o, h'.get? e = some o ∧ o.cls = .type "StopIteration") → E (.ref e) { s with heap := h' }) → wpAny (model prog w) A (Builtin.SmallTypes.nextOf (.ref it)) Q E s
  mv : ∀ {h h' : Heap} {it : Addr} {i : Nat}, st h it i → (∀ c o, c = it ∨ c = l → h.get? c = some o → h'.get? c = some o) → st h' it i
/-- a zip: what it knows of its last tuple -/
abbrev ZSt (h : Heap) (z TI TO : Addr) (x0 : Value) (f : Bool) : Prop :=
  h.get? z = some { cls := .type "zip", dict := none, data := .fields #[x0, .bool f, .bool false, .ref TI, .ref TO], slots := #[] }
def ZS (h : Heap) (z TI TO : Addr) : Prop := ∃ x0 f, ZSt h z TI TO x0 f ∧ (x0 = .none ∨ ∃ T : Addr, x0 = rawInt T)
theorem ZS.at {h h' : Heap} {z TI TO : Addr} (g : ZS h z TI TO) (k : ∀ o, h.get? z = some o → h'.get? z = some o) : ZS h' z TI TO := let ⟨x0, f, e, q⟩ := g; ⟨x0, f, k _ e, q⟩
end DL
set_option Elab.async false
set_option linter.all false
set_option maxRecDepth 100000
set_option maxHeartbeats 2000000
set_option autoImplicit false
set_option Elab.async false
set_option linter.all false
set_option maxRecDepth 100000
set_option maxHeartbeats 2000000
set_option autoImplicit false
set_option Elab.async false
set_option linter.all false
set_option maxRecDepth 100000
set_option maxHeartbeats 3200000
set_option autoImplicit false
namespace DL
open PySem PySem.Spec PyProof.Rows
section
variable {prog : Program} {w : World} {A : Around} {R : Result → Shared → Prop} {I : Addr} {fp wr : List Addr} {G : Array GenState → Array GenState → Prop} {n : Nat} {P : Nat → Value → Prop} {St : Nat → Shared → Prop}
theorem nodup_any {xs : List Str} (hd : xs.Nodup) {i : Nat} (h : i < xs.length) : (xs.take i).any (· == xs.getD i Str.empty) = false := by
  rw [List.any_eq_false]
  intro y hy e
  have e1 : y = xs.getD i Str.empty := eq_of_beq e
  rw [List.getD_eq_getElem?_getD, List.getElem?_eq_getElem h] at e1
  have e2 : y = xs[i] := e1
  obtain ⟨j, hj, e3⟩ := List.getElem_of_mem hy
  have hj2 : j < i := by rw [List.length_take] at hj; omega
  rw [List.getElem_take] at e3
  have := (List.nodup_iff_pairwise_ne.mp hd)
  have q := List.pairwise_iff_getElem.mp this j i (by omega) h hj2
  exact q (e3.trans e2)
/-- how many unlike ones are among the first -/
def cD (xs : List Str) : Nat → Nat
  | 0 => 0
  | i + 1 => if (xs.take i).any (· == xs.getD i Str.empty) = true then cD xs i else cD xs i + 1
theorem cD_le (xs : List Str) : ∀ i, cD xs i ≤ i
  | 0 => Nat.le_refl 0
  | i + 1 => by
    have := cD_le xs i
    rw [cD]
    split <;> omega
theorem cD_nodup {xs : List Str} (hd : xs.Nodup) : ∀ i, i ≤ xs.length → cD xs i = i
  | 0, _ => rfl
  | i + 1, h => by
    rw [cD, nodup_any hd (i := i) (by omega), if_neg Bool.false_ne_true, cD_nodup hd i (by omega)]
theorem cD_full {xs : List Str} : ∀ i, i ≤ xs.length → cD xs i = i → (xs.take i).Nodup
  | 0, _, _ => by simp
  | i + 1, h, e => by
    rw [cD] at e
    have l := cD_le xs i
    split at e
    · omega
    · rename_i n
      have ih := cD_full (xs := xs) i (by omega) (by omega)
      have e2 : xs.take (i + 1) = xs.take i ++ [xs.getD i Str.empty] := by
        rw [List.take_succ, List.getD_eq_getElem?_getD, List.getElem?_eq_getElem (by omega)]; rfl
      rw [e2, List.nodup_append]
      refine ⟨ih, by simp, fun a ha b hb z => n ?_⟩
      rw [List.mem_singleton.mp hb] at z
      exact List.any_eq_true.mpr ⟨a, ha, by rw [z]; exact beq_self_eq_true _⟩
def dstN (xs : List Str) : Nat := cD xs xs.length
theorem dst_le (xs : List Str) : dstN xs ≤ xs.length := cD_le xs _
theorem dst_eq (xs : List Str) : dstN xs = xs.length ↔ xs.Nodup := ⟨fun e => by have := cD_full xs.length (Nat.le_refl _) e; rwa [List.take_length] at this, fun h => cD_nodup h _ (Nat.le_refl _)⟩
theorem set_update_texts (W : WalksS prog w A.in1 I fp wr G n P St) (S : Addr) (off : S ∉ fp) (xs : List Str) (lx : xs.length = n) (hn : n + 1 < scanBound) (hv : ∀ i v, P i v → ∃ t, v = .str (xs.getD i Str.empty) t) :
    ∀ (k i : Nat) (s : Shared), n - i = k → i ≤ n → St i s → s.heap.SetOf (PySem.strKind prog w) S (fun q => (xs.take i).any (· == q)) (cD xs i) →
      (∀ t, Moved (S :: wr) G s t → t.heap.SetOf (PySem.strKind prog w) S (fun q => (xs.take n).any (· == q)) (cD xs n) → R (.ok (.ret .none)) t) → codeAny (model prog w) A (.builtin "set.update.loop" ⟨[.ref S, .ref I], []⟩) R s := by
  have off2 : S ∉ wr := fun q => off (W.sub _ q)
  have more : ∀ b ∈ wr, b ∈ S :: wr := fun b hb => List.mem_cons_of_mem _ hb
  intro k
  induction k with
  | zero =>
    intro i s hk hi st so fin
    have e : i = n := by omega
    subst e
    refine codeAny_builtin F.entry_set_update_loop ?_
    rw [Around.under_plainId F.plain_set_update_loop _]
    show wpAny _ A.in1 (pyNext (.ref I) >>= _) _ _ s
    refine wpAny_bind (W.done s _ _ st fun t mv => ?_)
    show wpAny _ A.in1 (ret Value.none) _ _ t
    obtain ⟨o, es, ep, tb, ho, rest⟩ := so
    exact wpAny_pure (fin t (mv.mono more) ⟨o, es, ep, tb, mv.heap S _ off2 ho, rest⟩)
  | succ k ih =>
    intro i s hk hi st so fin
    have lt : i < n := by omega
    refine codeAny_builtin F.entry_set_update_loop ?_
    rw [Around.under_plainId F.plain_set_update_loop _]
    show wpAny _ A.in1 (pyNext (.ref I) >>= _) _ _ s
    refine wpAny_bind (W.item i s _ _ lt st fun v s2 pv st2 mv => ?_)
    obtain ⟨t, rfl⟩ := hv i v pv
    obtain ⟨o, es, ep, tb, ho, rest⟩ := so
    have so2 : s2.heap.SetOf (PySem.strKind prog w) S (fun q => (xs.take i).any (· == q)) (cD xs i) := ⟨o, es, ep, tb, mv.heap S _ off2 ho, rest⟩
    show wpAny _ A.in1 (holding [Value.str (xs.getD i Str.empty) t] (setAdd S (.str (xs.getD i Str.empty) t)) >>= _) _ _ s2
    refine wpAny_bind (wpAny_holding ?_)
    unfold setAdd
    refine wpAny_holding (wpAny_bind ((PySem.strKind prog w).pyHash (k := xs.getD i Str.empty) (strKind_is _ _ _ _) ?_))
    refine wpAny_setAddHashed_of (knd := PySem.strKind prog w) (s := { s2 with toks := s2.toks + 1 }) (strKind_is _ _ _ _) rfl so2 (by have := cD_le xs i; omega) fun h3 sb so3 => ?_
    have so4 : h3.SetOf (PySem.strKind prog w) S (fun q => (xs.take (i + 1)).any (· == q)) (cD xs (i + 1)) := by
      refine SetOf_congr so3 (fun q => ?_) (by rw [cD])
      have e : xs.take (i + 1) = xs.take i ++ [xs.getD i Str.empty] := by
        rw [List.take_succ, List.getD_eq_getElem?_getD, List.getElem?_eq_getElem (by omega)]; rfl
      rw [e, List.any_append]
      show (_ || decide (q = xs.getD i Str.empty)) = (_ || (xs.getD i Str.empty == q || false))
      rw [Bool.or_false]
      congr 1
      by_cases z : q = xs.getD i Str.empty
      · rw [decide_eq_true z, z, beq_self_eq_true]
      · rw [decide_eq_false z, beq_eq_false_iff_ne.mpr (fun y => z y.symm)]
    refine wpAny_pure ⟨plainId_quiet F.plain_set_update_loop _, ih (i + 1) _ (by omega) lt (W.frame _ s2 _ _ st2 (Nat.le_succ _) fun b hb o e => ?_) so4 fun s3 mv3 so5 => ?_⟩
    · rw [sb.2 b (fun q => off (by rw [← q]; exact hb))]; exact e
    · refine fin s3 (Moved.trans W.gtrans ((mv.mono more).then_heap (Nat.le_succ _) fun b o hb e => ?_) mv3) so5
      rw [sb.2 b (fun q => hb (by rw [q]; exact List.mem_cons_self))]; exact e
end
section
variable {prog : Program} {w : World} {A : Around} {E : Value → Shared → Prop} {s : Shared}
abbrev soL (led : Bool) : Obj := { cls := .type "set", dict := none, data := .set #[] 0 (.fresh 0 0 led) }
theorem call_set_texts {l : Addr} {items : Array Value} {xs : List Str} {Q : Value → Shared → Prop} (hh : A.handled = none) (hl : s.heap.IsTuple l items) (hi : StrsAre items.toList xs) (hn : xs.length + 1 < scanBound)
    (h : ∀ (h' : Heap) (tk : Nat), h'.SetOf (PySem.strKind prog w) s.heap.objs.size (fun q => (xs.take items.size).any (· == q)) (cD xs items.size) → (∀ b o, b < s.heap.objs.size → s.heap.get? b = some o → h'.get? b = some o) →
      Q (.ref s.heap.objs.size) { s with heap := h', toks := tk }) : wpAny (model prog w) A (call (.type "set") [.ref l]) Q E s := by
  obtain ⟨c, tl, hmro⟩ := PySem.F.called_set.mro
  have hmade := PySem.F.called_set.made
  have hsub := PySem.F.called_set.sub
  have h1 := PySem.F.called_set.notType
  have h2 := PySem.F.called_set.canCreate
  have hct := PySem.F.typeCall_set_1 (.ref l)
  refine wpAny_call (codeAny_of_tree ?_)
  show wpAny _ _ (callAny (.type "set") _) _ _ _
  refine wpAny_pure ⟨Code.quiet_builtin _ (by decide +kernel), codeAny_builtin PySem.F.entry_type_call ?_⟩
  rw [Around.under_plain (weight_type_call_type "set" [.ref l] []) rfl]
  repeat (any_goals (first | assumption | wp_step))
  refine codeAny_mono (code_set_new_1 (.ref l) (E := E) (Q₁ := fun obj s₁ => ∃ led : Bool, obj = .ref s.heap.objs.size ∧ s₁ = { s with heap := s.heap.push (soL led) }) fun led => ⟨led, rfl, rfl⟩) fun r s₁ hr => ?_
  match r, hr with
  | .error e, hr => exact hr
  | .ok (.ret obj), hr =>
    obtain ⟨led, rfl, rfl⟩ := hr
    have hS : (s.heap.push (soL led)).get? s.heap.objs.size = some (soL led) := Heap.get?_push_size _ rfl
    have hT : Shared.TypeIs { s with heap := s.heap.push (soL led) } (.ref s.heap.objs.size) "set" := ⟨_, hS, rfl⟩
    have hli := PySem.F.called_set.init.lookup
    have hbi := PySem.F.called_set.init.bind (.ref s.heap.objs.size)
    repeat (any_goals (first | assumption | wp_step))
    refine codeAny_mono (codeAny_call_builtin (R := wants (fun r s₂ => r = .none ∧ ∃ h' tk, s₂ = { s with heap := h', toks := tk } ∧ h'.SetOf (PySem.strKind prog w) s.heap.objs.size (fun q => (xs.take items.size).any (· == q)) (cD xs items.size) ∧
        (∀ b o, b < s.heap.objs.size → s.heap.get? b = some o → h'.get? b = some o)) E) PySem.F.called_set.init.plain PySem.F.entry_set_init (check_set_init_1 hT ?_)) fun r₂ s₂ hr₂ => ?_
    · obtain ⟨⟨ocls, odict, odata, oslots⟩, hol, hcl, nl, hdl⟩ := hl
      simp only at hcl hdl
      subst hcl hdl
      have hol' := Heap.get?_push_of_some (soL led) hol
      have hsls := PySem.F.sub_tuple_set
      have hslf := PySem.F.sub_tuple_frozenset
      have hne : (Value.type "tuple" == Value.type "dict") = false := by decide
      have hl1 : (s.heap.push (soL led)).IsTuple l items := ⟨_, hol', rfl, nl, rfl⟩
      unfold Builtin.«set.__init__» noKeywords Builtin.Frozenset.updateFrom
      generalize hPI : pyIter = PI
      wp_walk
      subst hPI
      refine wpAny_pyIter_tuple hl1 (wpAny_bind (wpAny_runValue ?_))
      have hlS : l < s.heap.objs.size := Heap.lt_size hol
      have hh3 : A.in1.in1.in1.handled = none := by simp [hh]
      have hneI : l ≠ (s.heap.push (soL led)).objs.size := by
        rw [Heap.size_push]; exact Nat.ne_of_lt (Nat.lt_succ_of_lt hlS)
      have off : s.heap.objs.size ∉ [(s.heap.push (soL led)).objs.size, l] := by
        rw [Heap.size_push]; simp only [List.mem_cons, List.not_mem_nil, or_false, not_or]
        exact ⟨Nat.ne_of_lt (Nat.lt_succ_self _), Nat.ne_of_gt hlS⟩
      have lx : xs.length = items.size := by rw [← StrsAre.len_eq hi, Array.length_toList]
      refine set_update_texts ((Walks.tuple hh3 _ l hneI items).toS) s.heap.objs.size off xs lx (by rw [← lx]; exact hn) (fun i v q => SS.strs_at hi i v (by rw [Array.getElem?_toList]; exact q)) (items.size - 0) 0 _ (by omega) (Nat.zero_le _)
        ⟨⟨_, Heap.get?_push_size _ rfl, rfl, rfl⟩, (hl1.push _)⟩ (SetOf_congr ((setObjOf_fresh (knd := PySem.strKind prog w) led).setOf (Heap.get?_push_of_some _ hS) (by unfold scanBound; omega)) (fun _ => rfl) rfl) fun s' hm hS' => ?_
      obtain ⟨h', g2, d', tk', os'⟩ := s'
      obtain rfl : g2 = s.gens := hm.gens
      obtain rfl : d' = s.drawn := hm.drawn
      obtain rfl : os' = s.os := hm.os
      show wpAny _ _ _ _ _ _
      refine wpAny_pure ?_
      show wpAny _ _ (ret Value.none) _ _ _
      refine wpAny_pure ⟨rfl, h', tk', rfl, hS', fun b o hb e => hm.heap b o ?_ (Heap.get?_push_of_some _ (Heap.get?_push_of_some _ e))⟩
      simp only [List.mem_cons, List.not_mem_nil, or_false, not_or]
      exact ⟨Nat.ne_of_lt hb, by rw [Heap.size_push]; exact Nat.ne_of_lt (Nat.lt_succ_of_lt hb)⟩
    · match r₂, hr₂ with
      | .error e, hr₂ => exact hr₂
      | .ok (.ret r), hr₂ =>
        obtain ⟨rfl, h', tk, rfl, hS', hk'⟩ := hr₂
        repeat (any_goals (first | assumption | wp_step))
        exact h _ _ hS' hk'
end
end DL
namespace DL
open PySem PySem.Spec L2
open PyProof.Rows hiding St
def tLenSetD (K : PySem.W.Frag) (ta : TE) : TE := fun σ H Q => ta σ H fun x H1 => ∃ l, ∃ xs : List Str, x = .ref l ∧ SqT K H1 l (xs.map V.str) ∧ xs.length ≤ 1000 ∧ Q (.int (dstN xs)) H1
theorem pe_lenSetD {X : Cx} {a : Expr} {ta : TE} {p p2 q pos : Pos} (hc : X.calm = true) (hm : X.mg "len" = none) (hm2 : X.mg "set" = none) (ha : PE X a ta) (hg : Gl X "len" := by rfl) (hg2 : Gl X "set" := by rfl)
    (na : starEach [a] X.env = (false, eval a X.env) :: starEach [] X.env := by rfl) : PE X (.Call (.Name "len" p) [.Call (.Name "set" p2) [a] [] q] [] pos) (tLenSetD X.K ta) := by
  refine ⟨fun pins s σ H Q I h => ?_⟩
  refine Call_ (ld_blt I hg hm boot_len (PyProof.Rows.callWith_builtin1 (PyProof.Rows.args_cons ?_ rfl) rfl rfl))
  refine Call_ (ld_blt I hg2 hm2 boot_set (PyProof.Rows.callWith_type1 (PyProof.Rows.args_cons (thn (ha.run pins s σ H _ I h) fun v s1 ⟨x, H1, I1, r1, q1⟩ => PyProof.Rows.args_nil ?_) na) na rfl))
  obtain ⟨l, xs, rfl, hq, hn, q1⟩ := q1
  cases r1
  obtain ⟨its, r, pl, hz⟩ := I1.tuple hq
  have hl : its.toArray.size = xs.length := by rw [List.size_toArray, ← r.length, List.length_map]
  refine call_set_texts (I1.ok.hd hc) pl (by simpa using strsAre_of r) (by unfold scanBound; omega) fun h' tk so kk => ?_
  rw [hl] at so
  obtain ⟨o, es, ep, t, ho, hex, hdt, _, _, _, hf, hn2⟩ := so
  have I2 : Inv X pins σ H1 { s1 with heap := h', toks := tk } := I1.kept fun b o e => kk b o (Heap.lt_size e) e
  exact PyProof.Rows.args_nil (call_len_set ho hex hdt hf (by have := cD_le xs xs.length; rw [hn2] <;> omega) ⟨.int (dstN xs), H1, I2.tok _, ⟨_, by rw [hn2]; rfl⟩, q1⟩)
section
variable {X : Cx} {W : WW} {pos : Pos}
theorem texts_v {K : PySem.W.Frag} {J : Jp} : ∀ {ns : List Str} {vs : List V}, RVs K J (ns.map R.str) vs → vs = ns.map V.str
  | [], _, .nil => rfl
  | n :: ns, _, .cons a t => by
    cases a
    rw [texts_v t]; rfl
/-- .. whatever texts -/
def wLenSetG (we : WE) : WE := fun g M P xw => we g M (fun x M1 => ∃ ns : List Str, x = .tup (ns.map R.str) ∧ ns.length ≤ 1000 ∧ P (.int (dstN ns)) M1) xw
theorem de_lenSetG {e : Expr} {p p2 q : Pos} {we : WE} (hc : X.calm = true) (hm : X.mg "len" = none) (hm2 : X.mg "set" = none) (he : DE X W e we) (hg : Gl X "len" := by rfl) (hg2 : Gl X "set" := by rfl)
    (na : starEach [e] X.env = (false, eval e X.env) :: starEach [] X.env := by rfl) : DE X W (.Call (.Name "len" p) [.Call (.Name "set" p2) [e] [] q] [] pos) (wLenSetG we) := by
  obtain ⟨te, pe, se⟩ := he
  refine ⟨_, pe_lenSetD hc hm hm2 pe hg hg2 na, fun J H σ g M P xw Q d rg h c cx => se J H σ g M _ xw _ d rg h (fun r v J1 H1 M1 p1 e1 d1 r1 => ?_) cx⟩
  obtain ⟨ns, rfl, hn, p1⟩ := p1
  cases r1 with
  | tup q1 q2 =>
    have := texts_v q2
    subst this
    exact ⟨_, ns, rfl, d1.ex.sqT q1, hn, c _ _ J1 H1 M1 p1 e1 d1 (.int _)⟩
end
end DL
set_option Elab.async false
set_option linter.all false
set_option maxRecDepth 100000
set_option maxHeartbeats 2000000
set_option autoImplicit false
set_option Elab.async false
set_option linter.all false
set_option maxRecDepth 100000
set_option maxHeartbeats 2000000
set_option autoImplicit false
namespace DL
open PySem PySem.Spec L2
open PyProof.Rows hiding St
mutual
theorem thb_len : ∀ (x : Rw) (known : List Str), (x.th known).length ≤ known.length + x.ct
  | .set a e, known => by
    rw [Rw.th, Rw.ct]
    split
    · omega
    · rw [List.length_append, List.length_singleton]; exact Nat.le_refl _
  | .tell _, known => by rw [Rw.th, Rw.ct]; omega
  | .iff _ p q, known => by
    rw [Rw.th, Rw.ct]
    have h1 := thlb_len p known
    have h2 := List.length_filter_le (fun a => decide (a ∈ Rw.thl known q)) (Rw.thl known p)
    omega
  | .rnd n p, known => by
    rw [Rw.th, Rw.ct]
    have h1 := thlb_len p known
    split <;> omega
theorem thlb_len : ∀ (xs : List Rw) (known : List Str), (Rw.thl known xs).length ≤ known.length + Rw.ctl xs
  | [], known => by rw [Rw.thl, Rw.ctl]; omega
  | x :: xs, known => by
    rw [Rw.thl, Rw.ctl]
    have h1 := thb_len x known
    have h2 := thlb_len xs (x.th known)
    omega
end
mutual
theorem vd_mono {w : Nat} {ns : List Str} {d e : Nat} (h : d ≤ e) : ∀ x : Rw, Rw.Vd w ns d x → Rw.Vd w ns e x
  | .set _ _, v => by rw [Rw.Vd] at v ⊢; exact v
  | .tell _, v => by rw [Rw.Vd] at v ⊢; exact v
  | .iff _ p q, v => by
    rw [Rw.Vd] at v ⊢
    exact ⟨v.1, by omega, vdl_mono (by omega) p v.2.2.1, vdl_mono (by omega) q v.2.2.2⟩
  | .rnd _ p, v => by
    rw [Rw.Vd] at v ⊢
    exact ⟨v.1, by omega, vdl_mono (by omega) p v.2.2⟩
theorem vdl_mono {w : Nat} {ns : List Str} {d e : Nat} (h : d ≤ e) : ∀ xs : List Rw, Rw.Vdl w ns d xs → Rw.Vdl w ns e xs
  | [], _ => by rw [Rw.Vdl]; exact True.intro
  | x :: xs, v => by
    rw [Rw.Vdl] at v ⊢
    exact ⟨vd_mono h x v.1, vdl_mono h xs v.2⟩
end
mutual
/-- a row by its place: the place, the row, the rows within -/
def Rw.pl : Rw → Nat → R
  | .set a e, n => .tup [.int (n : Int), (Rw.set a e).r, .lst []]
  | .tell a, n => .tup [.int (n : Int), (Rw.tell a).r, .lst []]
  | .iff a p q, n => .tup [.int (n : Int), (Rw.iff a p q).r, .lst [.lst (Rw.pll p (n + 1)), .lst (Rw.pll q (n + 1 + Rw.ctl p))]]
  | .rnd k p, n => .tup [.int (n : Int), (Rw.rnd k p).r, .lst [.lst (Rw.pll p (n + 1))]]
def Rw.pll : List Rw → Nat → List R
  | [], _ => []
  | x :: xs, n => x.pl n :: Rw.pll xs (n + x.ct)
end
theorem in_strs (s : Str) : ∀ ws : List Str, inR (.str s) (ws.map R.str) = decide (s ∈ ws)
  | [] => rfl
  | w :: ws => by
    have ih := in_strs s ws
    unfold inR inV at ih ⊢
    rw [List.map_cons, List.map_cons, List.any_cons, ih]
    show ((w == s) || decide (s ∈ ws)) = _
    by_cases h : w = s
    · rw [h, beq_self_eq_true, Bool.true_or, decide_eq_true List.mem_cons_self]
    · rw [beq_eq_false_iff_ne.mpr h, Bool.false_or]
      exact decide_eq_decide.mpr ⟨fun q => List.mem_cons_of_mem _ q, fun q => (List.mem_cons.mp q).resolve_left fun z => h z.symm⟩
theorem flat_strs : ∀ ws : List Str, (ws.map R.str).all flatR = true
  | [] => rfl
  | w :: ws => by rw [List.map_cons, List.all_cons, flat_strs ws]; rfl
def Lay (k : Nat) (r : R) : Prop := ∃ d, r.py = some d ∧ PyData.canLay0 d = true ∧ PyData.depth d ≤ k
def Lays (k : Nat) (rs : List R) : Prop := ∃ ds, R.pys rs = some ds ∧ ds.length = rs.length ∧ PyData.canLayAll0 ds = true ∧ PyData.depthAll ds ≤ k
theorem Lays.nil {k : Nat} : Lays k [] := ⟨[], rfl, rfl, rfl, Nat.zero_le _⟩
theorem Lays.cons {k : Nat} {r : R} {rs : List R} (h : Lay k r) (t : Lays k rs) : Lays k (r :: rs) := by
  obtain ⟨d, h1, h2, h3⟩ := h
  obtain ⟨ds, t1, t2, t3, t4⟩ := t
  exact ⟨d :: ds, by rw [R.pys, h1, t1], by rw [List.length_cons, List.length_cons, t2], (by show (PyData.canLay0 d && PyData.canLayAll0 ds) = true; rw [h2, t3]; rfl), Nat.max_le.mpr ⟨h3, t4⟩⟩
theorem Lay.tup {k : Nat} {rs : List R} (h : Lays k rs) : Lay (k + 1) (.tup rs) := by
  obtain ⟨ds, h1, h2, h3, h4⟩ := h
  exact ⟨.tuple ds, by rw [R.py, h1]; rfl, h3, Nat.succ_le_succ h4⟩
theorem Lay.int {k : Nat} (i : Int) : Lay k (.int i) := ⟨.int i, rfl, rfl, Nat.zero_le _⟩
theorem Lay.str {k : Nat} {s : Str} (h : PyData.strOk s = true) : Lay k (.str s) := ⟨.str s, rfl, h, Nat.zero_le _⟩
theorem Lay.mono {k j : Nat} {r : R} (h : Lay k r) (e : k ≤ j) : Lay j r := let ⟨d, h1, h2, h3⟩ := h; ⟨d, h1, h2, Nat.le_trans h3 e⟩
theorem Lays.mono {k j : Nat} {r : List R} (h : Lays k r) (e : k ≤ j) : Lays j r := let ⟨d, h1, h0, h2, h3⟩ := h; ⟨d, h1, h0, h2, Nat.le_trans h3 e⟩
theorem Lays.of {k : Nat} : ∀ {rs : List R}, (∀ r ∈ rs, Lay k r) → Lays k rs
  | [], _ => Lays.nil
  | r :: rs, h => Lays.cons (h r List.mem_cons_self) (Lays.of fun q hq => h q (List.mem_cons_of_mem _ hq))
theorem Lays.shaped {k : Nat} {rs : List R} (h : Lays k rs) (hk : k ≤ 63) : ∃ ds, R.pys rs = some ds ∧ SeqAt.shaped (.list ds) = true ∧ PyData.eqv (.list ds) (.list []) = rs.isEmpty := by
  obtain ⟨ds, h1, h2, h3, h4⟩ := h
  refine ⟨ds, h1, ?_, ?_⟩
  · unfold SeqAt.shaped
    show (PyData.canLayAll0 ds && decide (PyData.depthAll ds + 1 ≤ 64)) = true
    rw [h3, Bool.true_and]
    exact decide_eq_true (by omega)
  · rw [eqvNil]
    cases ds <;> cases rs <;> first | rfl | (simp at h2)
def natL (vs : List Nat) : List R := vs.map fun v => R.int (v : Nat)
end DL
set_option Elab.async false
set_option linter.all false
set_option maxRecDepth 100000
set_option maxHeartbeats 4000000
set_option autoImplicit false
set_option Elab.async false
set_option linter.all false
set_option maxRecDepth 100000
set_option maxHeartbeats 4000000
set_option autoImplicit false
set_option Elab.async false
set_option linter.all false
set_option maxRecDepth 100000
set_option maxHeartbeats 2000000
set_option autoImplicit false
set_option Elab.async false
set_option linter.all false
set_option maxRecDepth 100000
set_option maxHeartbeats 2000000
set_option autoImplicit false
set_option Elab.async false
set_option linter.all false
set_option maxRecDepth 100000
set_option maxHeartbeats 2000000
set_option autoImplicit false
set_option Elab.async false
set_option linter.all false
set_option maxRecDepth 100000
set_option maxHeartbeats 2000000
set_option autoImplicit false
namespace DL
open PySem PySem.Spec L2
open PyProof.Rows hiding St
theorem vstrs {K : PySem.W.Frag} {J : Jp} : ∀ {ns : List Str} {vs : List V}, RVs K J (ns.map R.str) vs → vs = ns.map V.str
  | [], _, .nil => rfl
  | n :: ns, _, .cons a t => by
    cases a
    rw [vstrs t]; rfl
theorem strs_rv {K : PySem.W.Frag} {J : Jp} : ∀ ns : List Str, RVs K J (ns.map R.str) (ns.map V.str)
  | [] => .nil
  | n :: ns => .cons (.str n) (strs_rv ns)
end DL
set_option Elab.async false
set_option linter.all false
set_option maxRecDepth 100000
set_option maxHeartbeats 2000000
namespace DL
open PySem PySem.Spec L2
open PyProof.Rows hiding St
def Jp.del (J : Jp) (a : Addr) : Jp := ⟨fun b => if b = a then none else J.j b, J.f⟩
section
variable {K : PySem.W.Frag} {J : Jp} {a : Addr} {od : Obj} {ws : List (Key × V)}
theorem del_ne {b : Addr} (n : b ≠ a) : (J.del a).j b = J.j b := if_neg n
theorem del_same : (J.del a).j a = none := if_pos rfl
theorem rd_del {b : Addr} {u : HO} (h : J.j a = some (.frz od (.dK ws))) (hu : ∀ o, (HO.frz o u) ≠ .frz od (.dK ws)) (hu2 : u ≠ .frz od (.dK ws)) (q : Rd J.j b u) : Rd (J.del a).j b u := by
  have n : b ≠ a := fun z => by
    rw [z] at q
    rcases q with q | ⟨o, q⟩
    · rw [h] at q; exact hu2 (Option.some.inj q).symm
    · rw [h] at q; exact hu o (Option.some.inj q).symm
  rcases q with q | ⟨o, q⟩
  · exact .inl (by rw [del_ne n]; exact q)
  · exact .inr ⟨o, by rw [del_ne n]; exact q⟩
mutual
theorem RV.del (h : J.j a = some (.frz od (.dK ws))) : ∀ {r : R} {v : V}, RV K J r v → RV K (J.del a) r v
  | _, _, .non => .non
  | _, _, .bl b => .bl b
  | _, _, .int i => .int i
  | _, _, .str x => .str x
  | _, _, .tup q hs => .tup (q.elim (fun q => .inl (rd_del h (fun o z => by cases z) (fun z => by cases z) q)) .inr) (RVs.del h hs)
  | _, _, .lst (a := b) q hs => .lst (by rw [del_ne (fun z => by rw [z, h] at q; cases q)]; exact q) (RVs.del h hs)
  | _, _, .o a => .o a
  | _, _, .ty n => .ty n
  | _, _, .scr q => .scr (q.elim (fun q => .inl (rd_del h (fun o z => by cases z) (fun z => by cases z) q)) .inr)
  | _, _, .pt (a := b) q h0 hs => .pt (by rw [del_ne (fun z => by rw [z, h] at q; cases q)]; exact q) h0 (RVs.del h hs)
  | _, _, .ex (a := b) (d := d0) q h0 hs => .ex (by rw [del_ne (fun z => by rw [z, h] at q; cases q)]; exact q) (by
      cases d0 with
      | none => exact h0
      | some d1 => exact ⟨by rw [del_ne (fun z => by have z1 := h0.1; rw [z, h] at z1; cases z1)]; exact h0.1, h0.2⟩) (RVs.del h hs)
theorem RVs.del (h : J.j a = some (.frz od (.dK ws))) : ∀ {rs : List R} {vs : List V}, RVs K J rs vs → RVs K (J.del a) rs vs
  | _, _, .nil => .nil
  | _, _, .cons q hs => .cons (RV.del h q) (RVs.del h hs)
end
theorem KRV.del {κ : Type} (h : J.j a = some (.frz od (.dK ws))) : ∀ {ps : List (κ × R)} {qs : List (κ × V)}, KRV K J ps qs → KRV K (J.del a) ps qs
  | _, _, .nil => .nil
  | _, _, .cons ⟨e, b⟩ t => .cons ⟨e, b.del h⟩ (KRV.del h t)
theorem MOk.del {H H' : Hp} {b : Addr} {m : MO} (h : J.j a = Option.some (.frz od (.dK ws))) (e : H' b = H b) (x : MOk K J H b m) : MOk K (J.del a) H' b m := by
  cases m with
  | lst rs => obtain ⟨vs, h1, h2⟩ := x; exact ⟨vs, e.trans h1, h2.del h⟩
  | dK kvs => obtain ⟨vs, h1, h2⟩ := x; exact ⟨vs, e.trans h1, h2.del h⟩
  | ins C fs => obtain ⟨dx, vs, h1, h2⟩ := x; exact ⟨dx, vs, e.trans h1, h2.del h⟩
  | dr n => obtain ⟨ns, t, l, u, h0, vs, h1, h2⟩ := x; exact ⟨ns, t, l, u, h0, vs, e.trans h1, h2.del h⟩
  | fK => exact ⟨e.trans x.1, x.2.del h⟩
end
end DL
set_option Elab.async false
set_option linter.all false
set_option maxRecDepth 100000
set_option maxHeartbeats 2000000
set_option autoImplicit false
namespace DL
open PySem PySem.Spec L2
open PyProof.Rows hiding St
abbrev FEnv := List (Str × F2)
def lkF : FEnv → Str → F2
  | [], _ => (0, 0)
  | p :: e, a => if p.1 = a then p.2 else lkF e a
def kyF (env : FEnv) : List Str := env.map (·.1)
def ptF (env : FEnv) (a : Str) (f : F2) : FEnv := if (env.any fun p => decide (p.1 = a)) = true then env.map (fun p => if p.1 = a then (p.1, f) else p) else env ++ [(a, f)]
theorem any_ky (env : FEnv) (a : Str) : (env.any fun p => decide (p.1 = a)) = decide (a ∈ kyF env) := by
  induction env with
  | nil => rfl
  | cons p e ih =>
    rw [List.any_cons, ih]
    unfold kyF
    rw [List.map_cons]
    by_cases h : p.1 = a
    · rw [decide_eq_true h, Bool.true_or, decide_eq_true]; rw [h]; exact List.mem_cons_self
    · rw [decide_eq_false h, Bool.false_or]
      refine decide_eq_decide.mpr ⟨List.mem_cons_of_mem _, fun q => ?_⟩
      exact (List.mem_cons.mp q).resolve_left fun z => h z.symm
theorem ky_map (env : FEnv) (a : Str) (f : F2) : kyF (env.map fun p => if p.1 = a then (p.1, f) else p) = kyF env := by
  unfold kyF
  rw [List.map_map]
  refine List.map_congr_left fun p _ => ?_
  show (if p.1 = a then (p.1, f) else p).1 = p.1
  split <;> rfl
theorem ky_pt (env : FEnv) (a : Str) (f : F2) : kyF (ptF env a f) = if a ∈ kyF env then kyF env else kyF env ++ [a] := by
  unfold ptF
  rw [any_ky]
  by_cases h : a ∈ kyF env
  · rw [decide_eq_true h, if_pos rfl, if_pos h, ky_map]
  · rw [decide_eq_false h, if_neg Bool.false_ne_true, if_neg h]
    unfold kyF
    rw [List.map_append]; rfl
theorem lk_pt (env : FEnv) (a : Str) (f : F2) (b : Str) : lkF (ptF env a f) b = if b = a then f else lkF env b := by
  have h1 : ∀ env : FEnv, lkF (env.map fun p => if p.1 = a then (p.1, f) else p) b = if b = a ∧ a ∈ kyF env then f else lkF env b := fun env => by
    induction env with
    | nil => rw [if_neg fun z => absurd z.2 List.not_mem_nil]; rfl
    | cons p e ih =>
      rw [List.map_cons, lkF, lkF, ih]
      by_cases h : p.1 = a
      · rw [if_pos h]
        dsimp only
        by_cases hb : b = a
        · rw [if_pos (h.trans hb.symm), if_pos ⟨hb, by unfold kyF; rw [List.map_cons, h]; exact List.mem_cons_self⟩]
        · rw [if_neg fun z => hb (z.symm.trans h), if_neg fun z => hb z.1, if_neg fun z => hb z.1, if_neg fun z => hb (z.symm.trans h)]
      · rw [if_neg h]
        by_cases hb : p.1 = b
        · rw [if_pos hb, if_neg fun z => h (hb.trans z.1), if_pos hb]
        · rw [if_neg hb, if_neg hb]
          by_cases q : b = a ∧ a ∈ kyF e
          · rw [if_pos q, if_pos ⟨q.1, by unfold kyF; rw [List.map_cons]; exact List.mem_cons_of_mem _ q.2⟩]
          · rw [if_neg q, if_neg fun z => q ⟨z.1, ?_⟩]
            have := z.2
            unfold kyF at this
            rw [List.map_cons] at this
            exact (List.mem_cons.mp this).resolve_left fun z => h z.symm
  have h2 : ∀ env : FEnv, a ∉ kyF env → lkF (env ++ [(a, f)]) b = if b = a then f else lkF env b := fun env => by
    induction env with
    | nil =>
      intro _
      show (if a = b then f else (0, 0)) = if b = a then f else (0, 0)
      by_cases h : a = b
      · rw [if_pos h, if_pos h.symm]
      · rw [if_neg h, if_neg fun z => h z.symm]
    | cons p e ih =>
      intro h
      have hp : p.1 ≠ a := fun z => h (by unfold kyF; rw [List.map_cons, z]; exact List.mem_cons_self)
      rw [List.cons_append, lkF, lkF, ih fun z => h (by unfold kyF; rw [List.map_cons]; exact List.mem_cons_of_mem _ z)]
      by_cases hb : p.1 = b
      · rw [if_pos hb, if_pos hb, if_neg fun z => hp (hb.trans z)]
      · rw [if_neg hb, if_neg hb]
  unfold ptF
  rw [any_ky]
  by_cases h : a ∈ kyF env
  · rw [decide_eq_true h, if_pos rfl, h1]
    by_cases hb : b = a
    · rw [if_pos ⟨hb, h⟩, if_pos hb]
    · rw [if_neg fun z => hb z.1, if_neg hb]
  · rw [decide_eq_false h, if_neg Bool.false_ne_true, h2 env h]
def joinF (ns : List Str) (e e' : FEnv) : FEnv := ns.map fun a => (a, commonN (lkF e a) (lkF e' a))
theorem ky_join (ns : List Str) (e e' : FEnv) : kyF (joinF ns e e') = ns := by
  unfold kyF joinF
  rw [List.map_map]
  exact List.map_id _
theorem lk_join : ∀ (ns : List Str) (e e' : FEnv) (a : Str), lkF (joinF ns e e') a = if a ∈ ns then commonN (lkF e a) (lkF e' a) else (0, 0)
  | [], e, e', a => by rw [if_neg List.not_mem_nil]; rfl
  | n :: ns, e, e', a => by
    show lkF ((n, commonN (lkF e n) (lkF e' n)) :: joinF ns e e') a = _
    rw [lkF, lk_join ns]
    dsimp only
    by_cases q : n = a
    · rw [if_pos q, if_pos (by rw [q]; exact List.mem_cons_self), q]
    · rw [if_neg q]
      by_cases z : a ∈ ns
      · rw [if_pos z, if_pos (List.mem_cons_of_mem _ z)]
      · rw [if_neg z, if_neg fun y => z ((List.mem_cons.mp y).resolve_left fun y => q y.symm)]
def LeF (f g : F2) : Prop := BSub f.1 g.1 ∧ BSub f.2 g.2
inductive LeE : FEnv → FEnv → Prop
  | nil : LeE [] []
  | cons {a : Str} {f g : F2} {e e' : FEnv} : LeF f g → LeE e e' → LeE ((a, f) :: e) ((a, g) :: e')
theorem LeF.rfl' {f : F2} : LeF f f := ⟨fun _ h => h, fun _ h => h⟩
theorem LeF.trans {f g h : F2} (a : LeF f g) (b : LeF g h) : LeF f h := ⟨fun k q => b.1 k (a.1 k q), fun k q => b.2 k (a.2 k q)⟩
theorem LeE.trans : ∀ {e f g : FEnv}, LeE e f → LeE f g → LeE e g
  | _, _, _, .nil, .nil => .nil
  | _, _, _, .cons a b, .cons c d => .cons (a.trans c) (b.trans d)
theorem LeE.ky : ∀ {e f : FEnv}, LeE e f → kyF e = kyF f
  | _, _, .nil => rfl
  | _, _, .cons (a := a) _ b => congrArg (a :: ·) b.ky
theorem LeE.lk : ∀ {e f : FEnv}, LeE e f → ∀ a, LeF (lkF e a) (lkF f a)
  | _, _, .nil, _ => LeF.rfl'
  | _, _, .cons h b, a => by
    rw [lkF, lkF]
    dsimp only
    split
    · exact h
    · exact b.lk a
theorem common_le {f g f' g' : F2} (h : LeF f g) (h' : LeF f' g') : LeF (commonN f f') (commonN g g') := by
  refine ⟨fun k q => ?_, fun k q => ?_⟩ <;> unfold commonN at q ⊢ <;> dsimp only at q ⊢ <;> rw [Nat.testBit_and, Bool.and_eq_true] at q ⊢
  · exact ⟨h.1 k q.1, h'.1 k q.2⟩
  · exact ⟨h.2 k q.1, h'.2 k q.2⟩
theorem common_l {f g : F2} : LeF (commonN f g) f := by
  refine ⟨fun k q => ?_, fun k q => ?_⟩ <;> unfold commonN at q <;> dsimp only at q <;> rw [Nat.testBit_and, Bool.and_eq_true] at q <;> exact q.1
theorem common_self (f : F2) : commonN f f = f := by unfold commonN; rw [Nat.and_self, Nat.and_self]
theorem LeE.join {e f e' f' : FEnv} (h : ∀ a, LeF (lkF e a) (lkF f a)) (h' : ∀ a, LeF (lkF e' a) (lkF f' a)) : ∀ ns : List Str, LeE (joinF ns e e') (joinF ns f f')
  | [] => .nil
  | _ :: ns => .cons (common_le (h _) (h' _)) (LeE.join h h' ns)
theorem LeE.pt {e e' : FEnv} (h : LeE e e') (a : Str) {f g : F2} (q : LeF f g) : LeE (ptF e a f) (ptF e' a g) := by
  have m : LeE (e.map fun p => if p.1 = a then (p.1, f) else p) (e'.map fun p => if p.1 = a then (p.1, g) else p) := by
    induction h with
    | nil => exact .nil
    | cons x _ ih =>
      rw [List.map_cons, List.map_cons]
      dsimp only
      split
      · exact .cons q ih
      · exact .cons x ih
  have s : LeE (e ++ [(a, f)]) (e' ++ [(a, g)]) := by
    clear m
    induction h with
    | nil => exact .cons q .nil
    | cons x _ ih => exact .cons x ih
  unfold ptF
  rw [any_ky, any_ky, h.ky]
  split
  · exact m
  · exact s
end DL
set_option Elab.async false
set_option linter.all false
set_option maxRecDepth 100000
set_option maxHeartbeats 2000000
set_option autoImplicit false
namespace DL
open PySem PySem.Spec L2
open PyProof.Rows hiding St
def FOk (w : Nat) (env : FEnv) : Prop := ∀ a, Fc w (lkF env a)
theorem fc_zero (w : Nat) : Fc w (0, 0) := ⟨Nat.two_pow_pos w, Nat.two_pow_pos w, rfl⟩
theorem fc_of {w : Nat} {f : F2} (h1 : f.1 < 2 ^ w) (h2 : f.2 < 2 ^ w) (h : ∀ k, f.1.testBit k = true → f.2.testBit k = false) : Fc w f :=
  ⟨h1, h2, Nat.eq_of_testBit_eq fun k => by
    rw [Nat.testBit_and, Nat.zero_testBit]
    cases e : f.1.testBit k with
    | false => rfl
    | true => rw [h k e]; rfl⟩
theorem bsub_lt {w a b : Nat} (h : BSub a b) (q : b < 2 ^ w) : a < 2 ^ w := Nat.lt_of_le_of_lt h.le q
theorem fc_le {w : Nat} {f g : F2} (h : LeF f g) (q : Fc w g) : Fc w f :=
  fc_of (bsub_lt h.1 q.zl) (bsub_lt h.2 q.ol) fun k z => Bool.eq_false_iff.mpr fun y => absurd (h.2 k y) (by rw [q.no (h.1 k z)]; exact Bool.false_ne_true)
theorem fc_common {w : Nat} {f g : F2} (h : Fc w f) : Fc w (commonN f g) := fc_le common_l h
theorem FOk.pt {w : Nat} {env : FEnv} (h : FOk w env) {a : Str} {f : F2} (q : Fc w f) : FOk w (ptF env a f) := fun b => by
  rw [lk_pt]; split
  · exact q
  · exact h b
theorem FOk.le {w : Nat} {h e : FEnv} (q : FOk w h) (l : LeE e h) : FOk w e := fun a => fc_le (l.lk a) (q a)
theorem FOk.join {w : Nat} {e e' : FEnv} (q : FOk w e) (ns : List Str) : FOk w (joinF ns e e') := fun a => by
  rw [lk_join]; split
  · exact fc_common (q a)
  · exact fc_zero w
theorem fits_le {w : Nat} {f g : F2} (h : LeF f g) {x : Nat} (q : Fits w g x) : Fits w f x := fits_of q.lt (fun k z => q.bz (h.1 k z)) fun k z => q.bo (h.2 k z)
def way1 (w : Nat) (f : F2) : Bool := decide (f.1 ≠ fullN w)
def way2 (f : F2) : Bool := decide (f.2 = 0)
end DL
set_option Elab.async false
set_option linter.all false
set_option maxRecDepth 100000
set_option maxHeartbeats 2000000
set_option autoImplicit false
namespace DL
open PySem PySem.Spec L2
open PyProof.Rows hiding St
abbrev Tld := Nat → Option FEnv
end DL
set_option Elab.async false
set_option linter.all false
set_option maxRecDepth 100000
set_option maxHeartbeats 2000000
namespace DL
open PySem PySem.Spec L2
open PyProof.Rows hiding St
theorem nxG {D : DEnds} {g g' : G} {M : MH} (h : g = g') (q : D.nx g' M) : D.nx g M := h ▸ q
theorem eqvRefl {d : PyData} (h : SeqAt.shaped d = true) : PyData.eqv d d = true := by
  have h1 : (PyData.canLay0 d && decide (PyData.depth d ≤ 64)) = true := h
  exact SeqAt.eqv_refl d (Bool.and_eq_true_iff.mp h1).1
end DL
set_option Elab.async false
set_option linter.all false
set_option maxRecDepth 100000
set_option maxHeartbeats 2000000
set_option autoImplicit false
namespace DL
open PySem PySem.Spec L2
open PyProof.Rows hiding St
def leS (a b : Str) : Prop := ltCps b.cps.toList a.cps.toList = false
theorem lt_tr : ∀ {a b c : List Nat}, ltCps b a = false → ltCps c b = false → ltCps c a = false
  | [], [], [], _, _ => rfl
  | [], [], _ :: _, _, _ => rfl
  | [], _ :: _, [], _, h => by simp [ltCps] at h
  | [], _ :: _, _ :: _, _, _ => rfl
  | _ :: _, [], _, h, _ => by simp [ltCps] at h
  | _ :: _, _ :: _, [], _, h => by simp [ltCps] at h
  | a :: r, b :: t, c :: u, h1, h2 => by
    simp only [ltCps, Bool.or_eq_false_iff, Bool.and_eq_false_iff, decide_eq_false_iff_not, beq_eq_false_iff_ne, ne_eq] at h1 h2 ⊢
    refine ⟨by omega, ?_⟩
    by_cases e : c = a
    · right
      have e1 : b = a := by omega
      have e2 : c = b := by omega
      exact lt_tr (h1.2.resolve_left fun n => n e1) (h2.2.resolve_left fun n => n e2)
    · exact .inl e
theorem lt_as : ∀ {a b : List Nat}, ltCps b a = false → ltCps a b = false → a = b
  | [], [], _, _ => rfl
  | [], _ :: _, _, h => by simp [ltCps] at h
  | _ :: _, [], h, _ => by simp [ltCps] at h
  | a :: r, b :: t, h1, h2 => by
    simp only [ltCps, Bool.or_eq_false_iff, Bool.and_eq_false_iff, decide_eq_false_iff_not, beq_eq_false_iff_ne, ne_eq] at h1 h2
    have e : a = b := by omega
    rw [e, lt_as (h1.2.resolve_left fun n => n e.symm) (h2.2.resolve_left fun n => n e)]
theorem leS_tr {a b c : Str} (h : leS a b) (g : leS b c) : leS a c := lt_tr h g
theorem leS_as {a b : Str} (h : leS a b) (g : leS b a) : a = b := by
  have e := lt_as h g
  have e2 : a.cps = b.cps := Array.ext' e
  cases a; cases b
  exact congrArg Str.mk e2
theorem rise_pw : ∀ (p : Str) (l : List Str), risingS p l = true → (p :: l).Pairwise leS
  | p, [], _ => List.pairwise_cons.mpr ⟨fun _ h => absurd h List.not_mem_nil, .nil⟩
  | p, x :: r, h => by
    have h' : (!ltCps x.cps.toList p.cps.toList && risingS x r) = true := h
    rw [Bool.and_eq_true, Bool.not_eq_true'] at h'
    have ih := rise_pw x r h'.2
    refine List.pairwise_cons.mpr ⟨fun y hy => ?_, ih⟩
    rcases List.mem_cons.mp hy with rfl | hy
    · exact h'.1
    · exact leS_tr h'.1 ((List.pairwise_cons.mp ih).1 y hy)
theorem sorted_pw {l : List Str} (h : sortedS l = true) : l.Pairwise leS := by
  cases l with
  | nil => exact .nil
  | cons x r => exact rise_pw x r h
theorem sorted_one {ys zs : List Str} (p : ys.Perm zs) (h : sortedS ys = true) (g : sortedS zs = true) : ys = zs :=
  p.eq_of_pairwise (le := leS) (fun _ _ _ _ a b => leS_as a b) (sorted_pw h) (sorted_pw g)
/-- facts ahead of all -/
def env0F (ns : List Str) : FEnv := ns.map fun a => (a, (0, 0))
theorem ok0 (w : Nat) (ns : List Str) : FOk w (env0F ns) := fun a => by
  have : lkF (env0F ns) a = (0, 0) := by
    induction ns with
    | nil => rfl
    | cons n ns ih =>
      show lkF ((n, (0, 0)) :: env0F ns) a = _
      rw [lkF]
      split
      · rfl
      · exact ih
  rw [this]; exact fc_zero w
/-- what is told ahead has facts, of unlike names -/
structure TlGood (w : Nat) (ns : List Str) (e : FEnv) : Prop where
  ok : FOk w e
  nd : (kyF e).Nodup
  sub : ∀ a ∈ kyF e, a ∈ ns
theorem TlGood.pt {w : Nat} {ns : List Str} {e : FEnv} (h : TlGood w ns e) {a : Str} (ha : a ∈ ns) {f : F2} (hf : Fc w f) : TlGood w ns (ptF e a f) := by
  refine ⟨h.ok.pt hf, ?_, ?_⟩
  · rw [ky_pt]
    split
    · exact h.nd
    · rename_i n
      rw [List.nodup_append]
      exact ⟨h.nd, List.nodup_cons.mpr ⟨List.not_mem_nil, List.nodup_nil⟩, fun b hb c hc z => n (by rw [List.mem_singleton.mp hc] at z; rw [← z]; exact hb)⟩
  · intro b hb
    rw [ky_pt] at hb
    split at hb
    · exact h.sub b hb
    · rcases List.mem_append.mp hb with hb | hb
      · exact h.sub b hb
      · rw [List.mem_singleton.mp hb]; exact ha
mutual
theorem th_in {w : Nat} {ns : List Str} : ∀ (x : Rw) (d : Nat) (known : List Str), Rw.Vd w ns d x → (∀ a ∈ known, a ∈ ns) → ∀ a ∈ x.th known, a ∈ ns
  | .set b e, d, k, v, h, a, ha => by
    rw [Rw.Vd] at v
    rw [Rw.th] at ha
    split at ha
    · exact h a ha
    · rcases List.mem_append.mp ha with ha | ha
      · exact h a ha
      · rw [List.mem_singleton.mp ha]; exact v.1
  | .tell _, d, k, v, h, a, ha => by rw [Rw.th] at ha; exact h a ha
  | .iff _ p q, d, k, v, h, a, ha => by
    rw [Rw.Vd] at v
    rw [Rw.th] at ha
    exact thl_in p _ k v.2.2.1 h a (List.mem_filter.mp ha).1
  | .rnd n p, d, k, v, h, a, ha => by
    rw [Rw.Vd] at v
    rw [Rw.th] at ha
    split at ha
    · exact thl_in p _ k v.2.2 h a ha
    · exact h a ha
theorem thl_in {w : Nat} {ns : List Str} : ∀ (xs : List Rw) (d : Nat) (known : List Str), Rw.Vdl w ns d xs → (∀ a ∈ known, a ∈ ns) → ∀ a ∈ Rw.thl known xs, a ∈ ns
  | [], d, k, v, h, a, ha => by rw [Rw.thl] at ha; exact h a ha
  | x :: xs, d, k, v, h, a, ha => by
    rw [Rw.Vdl] at v
    rw [Rw.thl] at ha
    exact thl_in xs d _ v.2 (th_in x d k v.1 h) a ha
end
theorem strs_le : ∀ {ks ls : List Str}, ks.Nodup → (∀ k ∈ ks, k ∈ ls) → ks.length ≤ ls.length
  | [], ls, _, _ => Nat.zero_le _
  | k :: ks, ls, h, hm => by
    rw [List.nodup_cons] at h
    have ih := strs_le (ls := ls.erase k) h.2 fun j hj => (List.mem_erase_of_ne (fun e => h.1 (by rw [← e]; exact hj))).mpr (hm j (List.mem_cons_of_mem _ hj))
    have hk := hm k List.mem_cons_self
    rw [List.length_erase_of_mem hk] at ih
    have := List.length_pos_of_mem hk
    rw [List.length_cons]; omega
end DL
set_option Elab.async false
set_option linter.all false
set_option maxRecDepth 100000
set_option maxHeartbeats 2000000
namespace DL
open PySem PySem.Spec L2
open PyProof.Rows hiding St
section
variable {X : Cx} {W : WW} {pos : Pos}
theorem de_gref {x : Str} {a : Addr} (hm : X.mg x = some (.ref a)) (hg : Gl X x := by rfl) (hd : (x == ("__debug__" : Str)) = false := by decide) : DE X W (.Name x pos) (wC (.o a)) :=
  ⟨_, pe_glob (v := .ref a) hg hm rfl hd, fun J H _ _ M _ _ _ d _ h c _ => c (.o a) (.ref a) J H M h Ex.rfl' d (.o a)⟩
end
end DL
set_option Elab.async false
set_option linter.all false
set_option maxRecDepth 100000
set_option maxHeartbeats 2000000
namespace DL
open PySem PySem.Spec L2
open PyProof.Rows hiding St
/-- what holds of rows and what is told ahead of them -/
def TlSo (T : Tld) (xs : List Rw) (pl : Nat) : Prop := ∀ i x e, xs[i]? = some x → T (pl + i) = some e → x.So (kyF e)
theorem TlSo.app {T : Tld} {xs ys : List Rw} {pl : Nat} (h : TlSo T xs pl) (g : TlSo T ys (pl + xs.length)) : TlSo T (xs ++ ys) pl := fun i x e hx he => by
  by_cases l : i < xs.length
  · exact h i x e (by rwa [List.getElem?_append_left l] at hx) he
  · have l' : xs.length ≤ i := Nat.le_of_not_lt l
    refine g (i - xs.length) x e (by rwa [List.getElem?_append_right l'] at hx) ?_
    rw [show pl + xs.length + (i - xs.length) = pl + i by omega]
    exact he
theorem TlSo.cons {T : Tld} {x : Rw} {ys : List Rw} {pl : Nat} (h : ∀ e, T pl = some e → x.So (kyF e)) (g : TlSo T ys (pl + 1)) : TlSo T (x :: ys) pl := fun i y e hx he => by
  cases i with
  | zero => simp at hx; rw [← hx]; exact h e he
  | succ i => exact g i y e (by simpa using hx) (by rw [show pl + 1 + i = pl + (i + 1) by omega]; exact he)
theorem TlSo.ext {T T' : Tld} {xs : List Rw} {pl : Nat} (h : TlSo T xs pl) (e : ∀ q, pl ≤ q → q < pl + xs.length → T' q = T q) : TlSo T' xs pl := fun i x en hx he => by
  have l := (List.getElem?_eq_some_iff.mp hx).1
  exact h i x en hx (by rw [← e (pl + i) (by omega) (by omega)]; exact he)
theorem TlSo.none {T : Tld} {xs : List Rw} {pl : Nat} (h : ∀ q, pl ≤ q → q < pl + xs.length → T q = none) : TlSo T xs pl := fun i x en hx he => by
  have l := (List.getElem?_eq_some_iff.mp hx).1
  rw [h (pl + i) (by omega) (by omega)] at he
  cases he
end DL
set_option Elab.async false
set_option linter.all false
set_option maxRecDepth 100000
set_option maxHeartbeats 2000000
set_option Elab.async false
set_option linter.all false
set_option maxRecDepth 100000
set_option maxHeartbeats 2000000
set_option Elab.async false
set_option linter.all false
set_option maxRecDepth 100000
set_option maxHeartbeats 2000000
set_option autoImplicit false
namespace DL
open PySem PySem.Spec L2
open PyProof.Rows hiding St
def Hold (w : Nat) (e : FEnv) (s : Str → Nat) : Prop := ∀ a, Fits w (lkF e a) (s a)
theorem Hold.le {w : Nat} {e e' : FEnv} {s : Str → Nat} (h : Hold w e s) (l : ∀ a, LeF (lkF e' a) (lkF e a)) : Hold w e' s := fun a => fits_le (l a) (h a)
theorem Hold.pt {w : Nat} {e : FEnv} {s : Str → Nat} (h : Hold w e s) {a : Str} {f : F2} {v : Nat} (q : Fits w f v) : Hold w (ptF e a f) (upS s a v) := fun b => by
  rw [lk_pt]
  unfold upS
  split
  · exact q
  · exact h b
end DL
set_option Elab.async false
set_option linter.all false
set_option maxRecDepth 100000
set_option maxHeartbeats 2000000
set_option Elab.async false
set_option linter.all false
set_option maxRecDepth 100000
set_option maxHeartbeats 2000000
set_option Elab.async false
set_option linter.all false
set_option maxRecDepth 100000
set_option maxHeartbeats 2000000
set_option autoImplicit false
namespace DL
open PySem PySem.Spec L2
open PyProof.Rows hiding St
structure EqE (d e : FEnv) : Prop where
  nd : (kyF d).Nodup
  nd' : (kyF e).Nodup
  ky : ∀ a, a ∈ kyF d ↔ a ∈ kyF e
  lk : ∀ a, lkF d a = lkF e a
theorem EqE.fn {d e : FEnv} (h : EqE d e) : lkF d = lkF e := funext h.lk
theorem EqE.ok {w : Nat} {d e : FEnv} (h : EqE d e) (f : FOk w d) : FOk w e := fun a => by rw [← h.lk a]; exact f a
theorem nd_pt {e : FEnv} (h : (kyF e).Nodup) (a : Str) (f : F2) : (kyF (ptF e a f)).Nodup := by
  rw [ky_pt]
  split
  · exact h
  · rename_i n
    rw [List.nodup_append]
    exact ⟨h, List.nodup_cons.mpr ⟨List.not_mem_nil, List.nodup_nil⟩, fun b hb c hc z => n (by rw [List.mem_singleton.mp hc] at z; rw [← z]; exact hb)⟩
theorem mem_pt {e : FEnv} {a b : Str} {f : F2} : b ∈ kyF (ptF e a f) ↔ b ∈ kyF e ∨ b = a := by
  rw [ky_pt]
  split
  · rename_i h
    exact ⟨.inl, fun q => q.elim id fun z => z ▸ h⟩
  · rw [List.mem_append, List.mem_singleton]
theorem EqE.pt {d e : FEnv} (h : EqE d e) (a : Str) (f : F2) : EqE (ptF d a f) (ptF e a f) :=
  ⟨nd_pt h.nd a f, nd_pt h.nd' a f, fun b => by rw [mem_pt, mem_pt, h.ky], fun b => by rw [lk_pt, lk_pt, h.lk]⟩
/-- joined, by names that are the same -/
theorem EqE.join {d1 d2 e1 e2 : FEnv} {ns ms : List Str} (h1 : ∀ a, lkF d1 a = lkF e1 a) (h2 : ∀ a, lkF d2 a = lkF e2 a) (n1 : ns.Nodup) (n2 : ms.Nodup) (nm : ∀ a, a ∈ ns ↔ a ∈ ms) : EqE (joinF ns d1 d2) (joinF ms e1 e2) :=
  ⟨by rw [ky_join]; exact n1, by rw [ky_join]; exact n2, fun a => by rw [ky_join, ky_join, nm], fun a => by
    rw [lk_join, lk_join, h1, h2]
    by_cases z : a ∈ ns
    · rw [if_pos z, if_pos ((nm a).mp z)]
    · rw [if_neg z, if_neg fun y => z ((nm a).mpr y)]⟩
end DL
set_option Elab.async false
set_option linter.all false
set_option maxRecDepth 100000
set_option maxHeartbeats 2000000
set_option Elab.async false
set_option linter.all false
set_option maxRecDepth 100000
set_option maxHeartbeats 2000000
set_option Elab.async false
set_option linter.all false
set_option maxRecDepth 100000
set_option maxHeartbeats 2000000
namespace DL
open PySem PySem.Spec L2
open PyProof.Rows hiding St
theorem nameStr {s : Str} (h : NameOk s) : PyData.strOk s = true := by
  unfold PyData.strOk
  rw [Array.all_eq_true']
  intro c hc
  have := h.cs c (by simpa using hc)
  exact decide_eq_true (by omega)
theorem str_shw {s : Str} (h : NameOk s) : (R.str s).shw = true := by
  show (decide (s.length ≤ 200) && PyData.strOk s) = true
  rw [nameStr h, Bool.and_true]
  have := h.hi
  exact decide_eq_true (by omega)
theorem int_shw {n : Nat} (h : n < 2 ^ 128) : (R.int (n : Int)).shw = true := decide_eq_true (by rw [Int.natAbs_natCast]; exact h)
end DL
set_option Elab.async false
set_option linter.all false
set_option maxRecDepth 100000
set_option maxHeartbeats 2000000
namespace DL
open PySem PySem.Spec L2
open PyProof.Rows hiding St
/-- sorted(xs) of texts, rising -/
def fSortSS : DC := fun xs M P => match xs with
  | [x] => ∃ ns : List Str, LsOf M x (ns.map R.str) ∧ ns.length < 64 ∧ ∀ ys : List Str, ys.Perm ns → sortedS ys = true → P (.lst (ys.map R.str)) M
  | _ => False
theorem sc_sortSS {K : PySem.W.Frag} : SimCall K (rSortedS K) fSortSS := by
  intro J H M rs vs P Q d rv h c
  unfold fSortSS at h
  split at h
  · obtain ⟨v, rfl, r⟩ := one_of rv
    obtain ⟨ns, h1, h2, h3⟩ := h
    obtain ⟨a, us, rfl, l, r2⟩ := h1.get d r
    cases vstrs r2
    exact ⟨a, ns, rfl, l.sq, h2, fun ys p q1 q2 hp => newL d c (h3 ys q1 q2) (strs_rv ys) p hp⟩
  · exact h.elim
end DL
set_option Elab.async false
set_option linter.all false
set_option maxRecDepth 100000
set_option maxHeartbeats 2000000
set_option autoImplicit false
namespace DL
open PySem PySem.Spec L2
open PyProof.Rows hiding St
mutual
/-- the names ahead of the k-th place of a row, itself the 0-th -/
def Rw.na : Rw → List Str → Nat → List Str
  | .set _ _, known, _ => known
  | .tell _, known, _ => known
  | .iff _ p q, known, k => if k = 0 then known else if k - 1 < Rw.ctl p then Rw.nal p known (k - 1) else Rw.nal q known (k - 1 - Rw.ctl p)
  | .rnd _ p, known, k => if k = 0 then known else Rw.nal p known (k - 1)
def Rw.nal : List Rw → List Str → Nat → List Str
  | [], known, _ => known
  | x :: xs, known, k => if k < x.ct then x.na known k else Rw.nal xs (x.th known) (k - x.ct)
end
theorem na0 (x : Rw) (known : List Str) : x.na known 0 = known := by
  cases x <;> rw [Rw.na] <;> rw [if_pos rfl]
structure WdN (names known : List Str) (s : Str → Nat) (kvs : List (Key × R)) : Prop where
  at' : ∀ a ∈ known, valR kvs (.inr a) = some (.int (s a : Nat))
  ks : ∃ l : List Str, kvs.map (·.1) = l.map Sum.inr ∧ l.Nodup ∧ ∀ a ∈ l, a ∈ names
theorem WdN.len {names known : List Str} {s : Str → Nat} {kvs : List (Key × R)} (h : WdN names known s kvs) : kvs.length ≤ names.length := by
  obtain ⟨l, h1, h2, h3⟩ := h.ks
  have := congrArg List.length h1
  rw [List.length_map, List.length_map] at this
  rw [this]
  exact strs_le h2 h3
theorem WdN.sub {names known known' : List Str} {s : Str → Nat} {kvs : List (Key × R)} (h : WdN names known s kvs) (g : ∀ a ∈ known', a ∈ known) : WdN names known' s kvs := ⟨fun a ha => h.at' a (g a ha), h.ks⟩
theorem put_keys (kvs : List (Key × R)) (l : List Str) (h : kvs.map (·.1) = l.map Sum.inr) (a : Str) (r : R) : (putR kvs (.inr a) r).map (·.1) = (if a ∈ l then l else l ++ [a]).map Sum.inr := by
  have any : (kvs.any fun kv => decide (kv.1 = (.inr a : Key))) = decide (a ∈ l) := by
    rw [Bool.eq_iff_iff, List.any_eq_true, decide_eq_true_iff]
    constructor
    · rintro ⟨kv, h1, h2⟩
      have : kv.1 ∈ l.map (Sum.inr : Str → Key) := by rw [← h]; exact List.mem_map_of_mem h1
      obtain ⟨b, hb, e⟩ := List.mem_map.mp this
      rw [of_decide_eq_true h2] at e
      exact Sum.inr.inj e ▸ hb
    · intro ha
      have : (Sum.inr a : Key) ∈ kvs.map (·.1) := by rw [h]; exact List.mem_map_of_mem ha
      obtain ⟨kv, h1, h2⟩ := List.mem_map.mp this
      exact ⟨kv, h1, decide_eq_true h2⟩
  unfold putR
  rw [any]
  by_cases z : a ∈ l
  · rw [decide_eq_true z, if_pos rfl, if_pos z, List.map_map, ← h]
    exact List.map_congr_left fun kv _ => by
      show (if kv.1 = (.inr a : Key) then (kv.1, r) else kv).1 = kv.1
      split <;> rfl
  · rw [decide_eq_false z, if_neg Bool.false_ne_true, if_neg z, List.map_append, List.map_append, h]; rfl
theorem WdN.put {names known : List Str} {s : Str → Nat} {kvs : List (Key × R)} (h : WdN names known s kvs) {a : Str} (ha : a ∈ names) (v : Nat) : WdN names (if a ∈ known then known else known ++ [a]) (upS s a v) (putR kvs (.inr a) (.int (v : Nat))) := by
  obtain ⟨l, h1, h2, h3⟩ := h.ks
  refine ⟨fun b hb => ?_, _, put_keys kvs l h1 a _, ?_, ?_⟩
  · rw [vput]
    unfold upS
    by_cases e : b = a
    · rw [if_pos (by rw [e]), if_pos e]
    · rw [if_neg (fun z => e (Sum.inr.inj z)), if_neg e]
      refine h.at' b ?_
      split at hb
      · exact hb
      · exact (List.mem_append.mp hb).resolve_right fun z => e (List.mem_singleton.mp z)
  · split
    · exact h2
    · rename_i z
      rw [List.nodup_append]
      exact ⟨h2, List.nodup_cons.mpr ⟨List.not_mem_nil, List.nodup_nil⟩, fun b hb c hc y => z (by rw [List.mem_singleton.mp hc] at y; rw [← y]; exact hb)⟩
  · intro b hb
    split at hb
    · exact h3 b hb
    · rcases List.mem_append.mp hb with hb | hb
      · exact h3 b hb
      · rw [List.mem_singleton.mp hb]; exact ha
end DL
set_option Elab.async false
set_option linter.all false
set_option maxRecDepth 100000
set_option maxHeartbeats 2000000
set_option autoImplicit false
set_option Elab.async false
set_option linter.all false
set_option maxRecDepth 100000
set_option maxHeartbeats 2000000
set_option autoImplicit false
namespace DL
open PySem PySem.Spec L2
open PyProof.Rows hiding St
abbrev NS := Str → Nat → Prop
def NSub (A B : NS) : Prop := ∀ a k, A a k → B a k
def nU (A B : NS) : NS := fun a k => A a k ∨ B a k
def n0 : NS := fun _ _ => False
theorem NSub.trans {A B C : NS} (h : NSub A B) (g : NSub B C) : NSub A C := fun a k q => g a k (h a k q)
def lfpN (F : NS → NS) : NS := fun a k => ∀ X : NS, NSub (F X) X → X a k
/-- the lowest bit of some -/
def lowB (n k : Nat) : Prop := n.testBit k = true ∧ ∀ j, j < k → n.testBit j = false
def upH (A : Nat → Prop) (k : Nat) : Prop := ∃ j, k ≤ j ∧ A j
/-- what an expression asks of its names -/
def askX (w : Nat) (env : Str → F2) : Xp → (Nat → Prop) → NS
  | .num _, _ => n0
  | .cop c, A => fun b k => b = c ∧ A k
  | .mov u c m, A => fun b k => b = c ∧ if u = true then A (k + m) else m ≤ k ∧ k < w ∧ A (k - m)
  | .pic c d e, A => fun b k => (∃ j, A j) ∧ if (env c).2 ≠ 0 then (b = c ∧ lowB (env c).2 k) ∨ (b = d ∧ A k) else if (env c).1 = fullN w then (b = c ∧ k < w) ∨ (b = e ∧ A k) else (b = c ∧ k < w) ∨ (b = d ∧ A k) ∨ (b = e ∧ A k)
  | .par x c d, A => fun b k => if x = "add" ∨ x = "less" then (b = c ∨ b = d) ∧ upH A k else if x = "same" ∨ x = "below" then (b = c ∨ b = d) ∧ k < w ∧ A 0 else if x = "unlike" then (b = c ∨ b = d) ∧ A k
      else if x = "and" then (b = d ∧ A k) ∨ (b = c ∧ A k ∧ (env d).1.testBit k = false) else (b = d ∧ A k) ∨ (b = c ∧ A k ∧ (env d).2.testBit k = false)
mutual
/-- nothing is told within, and no such name is set -/
def Rw.qt (S : Str → Prop) : Rw → Prop
  | .set a _ => ¬ S a
  | .tell _ => False
  | .iff _ p q => Rw.qtl S p ∧ Rw.qtl S q
  | .rnd _ p => Rw.qtl S p
def Rw.qtl (S : Str → Prop) : List Rw → Prop
  | [] => True
  | x :: xs => x.qt S ∧ Rw.qtl S xs
end
def Nd (L : NS) : Str → Prop := fun a => ∃ k, L a k
def idleN (p q : List Rw) (L : NS) : Prop := Rw.qtl (Nd L) p ∧ Rw.qtl (Nd L) q
/-- what an if asks of its name -/
def askIf (w : Nat) (f : F2) (k : Nat) : Prop := if f.2 = 0 then k < w else lowB f.2 k
mutual
/-- the needs ahead of a row at a place, by those behind it -/
def Rw.nd (w : Nat) (T : Tld) : Rw → Nat → NS → NS
  | .set a e, pl, L => match T pl with
    | none => L
    | some env => fun b k => (b ≠ a ∧ L b k) ∨ askX w (lkF env) e (L a) b k
  | .tell a, pl, L => match T pl with
    | none => L
    | some _ => fun b k => L b k ∨ (b = a ∧ k < w)
  | .iff a p q, pl, L => match T pl with
    | none => L
    | some env => fun b k => (idleN p q L ∧ L b k) ∨ (¬ idleN p q L ∧ ((way1 w (lkF env a) = true ∧ Rw.ndl w T p (pl + 1) L b k) ∨ (way2 (lkF env a) = true ∧ Rw.ndl w T q (pl + 1 + Rw.ctl p) L b k) ∨ (b = a ∧ askIf w (lkF env a) k)))
  | .rnd n p, pl, L => match T pl with
    | none => L
    | some _ => if 0 < n then Rw.ndl w T p (pl + 1) (lfpN fun X => nU L (Rw.ndl w T p (pl + 1) X)) else L
def Rw.ndl (w : Nat) (T : Tld) : List Rw → Nat → NS → NS
  | [], _, L => L
  | x :: xs, pl, L => x.nd w T pl (Rw.ndl w T xs (pl + x.ct) L)
end
/-- what was needed at the end of a round's rows at last -/
def rndE (w : Nat) (T : Tld) (p : List Rw) (pl : Nat) (L : NS) : NS := lfpN fun X => nU L (Rw.ndl w T p (pl + 1) X)
mutual
/-- the needs ahead of a place and behind it, as they are told -/
def Rw.nb (w : Nat) (T : Tld) : Rw → Nat → NS → Nat → Option (NS × NS)
  | .set a e, pl, L, q => if q = pl ∧ (T pl).isSome = true then some ((Rw.set a e).nd w T pl L, L) else none
  | .tell a, pl, L, q => if q = pl ∧ (T pl).isSome = true then some ((Rw.tell a).nd w T pl L, L) else none
  | .iff a p r, pl, L, q => match T pl with
    | none => none
    | some env => if q = pl then some ((Rw.iff a p r).nd w T pl L, L) else if q < pl + 1 + Rw.ctl p then (if way1 w (lkF env a) = true then Rw.nbl w T p (pl + 1) L q else none)
      else if way2 (lkF env a) = true then Rw.nbl w T r (pl + 1 + Rw.ctl p) L q else none
  | .rnd n p, pl, L, q => match T pl with
    | none => none
    | some _ => if q = pl then some ((Rw.rnd n p).nd w T pl L, L) else if 0 < n then Rw.nbl w T p (pl + 1) (rndE w T p pl L) q else none
def Rw.nbl (w : Nat) (T : Tld) : List Rw → Nat → NS → Nat → Option (NS × NS)
  | [], _, _, _ => none
  | x :: xs, pl, L, q => if q < pl + x.ct then x.nb w T pl (Rw.ndl w T xs (pl + x.ct) L) q else Rw.nbl w T xs (pl + x.ct) L q
end
end DL
set_option Elab.async false
set_option linter.all false
set_option maxRecDepth 100000
set_option maxHeartbeats 2000000
set_option autoImplicit false
namespace DL
open PySem PySem.Spec L2
open PyProof.Rows hiding St
def Agr (L : NS) (s t : Str → Nat) : Prop := ∀ a k, L a k → (s a).testBit k = (t a).testBit k
theorem Agr.sub {L L' : NS} {s t : Str → Nat} (h : Agr L s t) (g : NSub L' L) : Agr L' s t := fun a k q => h a k (g a k q)
end DL
set_option Elab.async false
set_option linter.all false
set_option maxRecDepth 100000
set_option maxHeartbeats 2000000
set_option autoImplicit false
set_option Elab.async false
set_option linter.all false
set_option maxRecDepth 100000
set_option maxHeartbeats 2000000
set_option autoImplicit false
set_option Elab.async false
set_option linter.all false
set_option maxRecDepth 100000
set_option maxHeartbeats 2000000
set_option autoImplicit false
set_option Elab.async false
set_option linter.all false
set_option maxRecDepth 100000
set_option maxHeartbeats 2000000
set_option autoImplicit false
namespace DL
open PySem PySem.Spec PyProof.Rows PyProof.V L2
structure ZilG (xs ys : Array Value) (lo : Addr) (h : Heap) (as : List Addr) : Prop where
  rise : as.Pairwise (· < ·)
  above : ∀ a ∈ as, lo < a
  pairs : ∀ (j : Nat) (a : Addr), as[j]? = some a → ∃ x y, xs[j]? = some x ∧ ys[j]? = some y ∧ IsPair h a x y
theorem ZilG.there {xs ys : Array Value} {lo : Addr} {h : Heap} {as : List Addr} (g : ZilG xs ys lo h as) {a : Addr} (ha : a ∈ as) : a < h.objs.size := by
  obtain ⟨j, hj⟩ := List.mem_iff_getElem?.mp ha
  obtain ⟨_, _, _, _, e⟩ := g.pairs j a hj
  exact Heap.lt_size e
section
variable {prog : Program} {w : World} {A : Around} {s : Shared} {R : Result → Shared → Prop}
variable {z TI TO i1 i2 l1 l2 : Addr} {xs ys : Array Value} {st1 st2 : Heap → Addr → Nat → Prop}
structure ZW (st1 st2 : Heap → Addr → Nat → Prop) (z TI TO i1 i2 : Addr) (h : Heap) (i : Nat) : Prop where
  z : ZS h z TI TO
  ti : IsPair h TI (.ref i1) (.ref i2)
  to : ∃ a b, IsPair h TO a b
  s1 : st1 h i1 i
  s2 : st2 h i2 i
theorem ZW.mv (K1 : ItK prog w l1 xs st1) (K2 : ItK prog w l2 ys st2) {h h' : Heap} {i : Nat} (g : ZW st1 st2 z TI TO i1 i2 h i) (k : ∀ c o, c ∈ [z, TI, TO, i1, i2, l1, l2] → h.get? c = some o → h'.get? c = some o) : ZW st1 st2 z TI TO i1 i2 h' i where
  z := g.z.at fun o => k _ o (by simp)
  ti := k _ _ (by simp) g.ti
  to := let ⟨a, b, e⟩ := g.to; ⟨a, b, k _ _ (by simp) e⟩
  s1 := K1.mv g.s1 fun c o hc => k c o (by rcases hc with rfl | rfl <;> simp)
  s2 := K2.mv g.s2 fun c o hc => k c o (by rcases hc with rfl | rfl <;> simp)
variable {E : Value → Shared → Prop}
end
end DL
set_option Elab.async false
set_option linter.all false
set_option maxRecDepth 100000
set_option maxHeartbeats 2000000
set_option autoImplicit false
set_option Elab.async false
set_option linter.all false
set_option maxRecDepth 100000
set_option maxHeartbeats 2000000
set_option autoImplicit false
namespace DL
open PySem PySem.Spec L2
open PyProof.Rows hiding St
abbrev NEnv := List (Str × Nat)
def pnR (p : Str × Nat) : R := .tup [.str p.1, .int (p.2 : Nat)]
end DL
set_option Elab.async false
set_option linter.all false
set_option maxRecDepth 100000
set_option maxHeartbeats 2000000
set_option autoImplicit false
set_option Elab.async false
set_option linter.all false
set_option maxRecDepth 100000
set_option maxHeartbeats 2000000
set_option autoImplicit false
namespace DL
open PySem PySem.Spec L2
open PyProof.Rows hiding St
def lkN : NEnv → Str → Nat
  | [], _ => 0
  | p :: e, a => if p.1 = a then p.2 else lkN e a
def kyN (env : NEnv) : List Str := env.map (·.1)
def ptN (env : NEnv) (a : Str) (f : Nat) : NEnv := if (env.any fun p => decide (p.1 = a)) = true then env.map (fun p => if p.1 = a then (p.1, f) else p) else env ++ [(a, f)]
def dkN (env : NEnv) : List (Key × R) := env.map fun p => (Sum.inr p.1, R.int (p.2 : Nat))
theorem any_kyN (env : NEnv) (a : Str) : (env.any fun p => decide (p.1 = a)) = decide (a ∈ kyN env) := by
  induction env with
  | nil => rfl
  | cons p e ih =>
    rw [List.any_cons, ih]
    unfold kyN
    rw [List.map_cons]
    by_cases h : p.1 = a
    · rw [decide_eq_true h, Bool.true_or, decide_eq_true]; rw [h]; exact List.mem_cons_self
    · rw [decide_eq_false h, Bool.false_or]
      refine decide_eq_decide.mpr ⟨List.mem_cons_of_mem _, fun q => ?_⟩
      exact (List.mem_cons.mp q).resolve_left fun z => h z.symm
theorem ky_mapN (env : NEnv) (a : Str) (f : Nat) : kyN (env.map fun p => if p.1 = a then (p.1, f) else p) = kyN env := by
  unfold kyN
  rw [List.map_map]
  refine List.map_congr_left fun p _ => ?_
  show (if p.1 = a then (p.1, f) else p).1 = p.1
  split <;> rfl
theorem ky_ptN (env : NEnv) (a : Str) (f : Nat) : kyN (ptN env a f) = if a ∈ kyN env then kyN env else kyN env ++ [a] := by
  unfold ptN
  rw [any_kyN]
  by_cases h : a ∈ kyN env
  · rw [decide_eq_true h, if_pos rfl, if_pos h, ky_mapN]
  · rw [decide_eq_false h, if_neg Bool.false_ne_true, if_neg h]
    unfold kyN
    rw [List.map_append]; rfl
theorem lk_ptN (env : NEnv) (a : Str) (f : Nat) (b : Str) : lkN (ptN env a f) b = if b = a then f else lkN env b := by
  have h1 : ∀ env : NEnv, lkN (env.map fun p => if p.1 = a then (p.1, f) else p) b = if b = a ∧ a ∈ kyN env then f else lkN env b := fun env => by
    induction env with
    | nil => rw [if_neg fun z => absurd z.2 List.not_mem_nil]; rfl
    | cons p e ih =>
      rw [List.map_cons, lkN, lkN, ih]
      by_cases h : p.1 = a
      · rw [if_pos h]
        dsimp only
        by_cases hb : b = a
        · rw [if_pos (h.trans hb.symm), if_pos ⟨hb, by unfold kyN; rw [List.map_cons, h]; exact List.mem_cons_self⟩]
        · rw [if_neg fun z => hb (z.symm.trans h), if_neg fun z => hb z.1, if_neg fun z => hb z.1, if_neg fun z => hb (z.symm.trans h)]
      · rw [if_neg h]
        by_cases hb : p.1 = b
        · rw [if_pos hb, if_neg fun z => h (hb.trans z.1), if_pos hb]
        · rw [if_neg hb, if_neg hb]
          by_cases q : b = a ∧ a ∈ kyN e
          · rw [if_pos q, if_pos ⟨q.1, by unfold kyN; rw [List.map_cons]; exact List.mem_cons_of_mem _ q.2⟩]
          · rw [if_neg q, if_neg fun z => q ⟨z.1, ?_⟩]
            have := z.2
            unfold kyN at this
            rw [List.map_cons] at this
            exact (List.mem_cons.mp this).resolve_left fun z => h z.symm
  have h2 : ∀ env : NEnv, a ∉ kyN env → lkN (env ++ [(a, f)]) b = if b = a then f else lkN env b := fun env => by
    induction env with
    | nil =>
      intro _
      show (if a = b then f else 0) = if b = a then f else 0
      by_cases h : a = b
      · rw [if_pos h, if_pos h.symm]
      · rw [if_neg h, if_neg fun z => h z.symm]
    | cons p e ih =>
      intro h
      have hp : p.1 ≠ a := fun z => h (by unfold kyN; rw [List.map_cons, z]; exact List.mem_cons_self)
      rw [List.cons_append, lkN, lkN, ih fun z => h (by unfold kyN; rw [List.map_cons]; exact List.mem_cons_of_mem _ z)]
      by_cases hb : p.1 = b
      · rw [if_pos hb, if_pos hb, if_neg fun z => hp (hb.trans z)]
      · rw [if_neg hb, if_neg hb]
  unfold ptN
  rw [any_kyN]
  by_cases h : a ∈ kyN env
  · rw [decide_eq_true h, if_pos rfl, h1]
    by_cases hb : b = a
    · rw [if_pos ⟨hb, h⟩, if_pos hb]
    · rw [if_neg fun z => hb z.1, if_neg hb]
  · rw [decide_eq_false h, if_neg Bool.false_ne_true, h2 env h]
theorem lk_memN : ∀ {env : NEnv}, (kyN env).Nodup → ∀ {p : Str × Nat}, p ∈ env → lkN env p.1 = p.2
  | [], _, _, h => by cases h
  | q :: e, nd, p, h => by
    unfold kyN at nd
    rw [List.map_cons, List.nodup_cons] at nd
    rcases List.mem_cons.mp h with rfl | h
    · rw [lkN, if_pos rfl]
    · rw [lkN, if_neg fun z => nd.1 (by rw [z]; exact List.mem_map.mpr ⟨p, h, rfl⟩)]
      exact lk_memN nd.2 h
/-- the bits by names -/
def denN (env : NEnv) : NS := fun a k => (lkN env a).testBit k = true
/-- some bits more -/
def orP (f : NEnv) (p : Str × Nat) : NEnv := ptN f p.1 (lkN f p.1 ||| p.2)
/-- needs that are told: each name once, the names known, words of w bits -/
structure NGood (w : Nat) (ns : List Str) (env : NEnv) : Prop where
  nd : (kyN env).Nodup
  sub : ∀ a ∈ kyN env, a ∈ ns
  lt : ∀ a, lkN env a < 2 ^ w
theorem NGood.nil (w : Nat) (ns : List Str) : NGood w ns [] := ⟨List.nodup_nil, fun a h => (by cases h), fun a => Nat.pow_pos (by decide)⟩
theorem NGood.or {w : Nat} {ns : List Str} {f : NEnv} (h : NGood w ns f) {p : Str × Nat} (hp : p.1 ∈ ns) (hl : p.2 < 2 ^ w) : NGood w ns (orP f p) := by
  refine ⟨?_, fun a ha => ?_, fun a => ?_⟩
  · unfold orP
    rw [ky_ptN]
    split
    · exact h.nd
    · rename_i n
      rw [List.nodup_append]
      exact ⟨h.nd, by simp, fun x hx y hy z => n (by rw [← List.mem_singleton.mp hy, ← z]; exact hx)⟩
  · unfold orP at ha
    rw [ky_ptN] at ha
    split at ha
    · exact h.sub a ha
    · rcases List.mem_append.mp ha with ha | ha
      · exact h.sub a ha
      · rw [List.mem_singleton.mp ha]; exact hp
  · unfold orP
    rw [lk_ptN]
    split
    · exact Nat.or_lt_two_pow (h.lt _) hl
    · exact h.lt a
theorem NGood.mem {w : Nat} {ns : List Str} {env : NEnv} (h : NGood w ns env) : ∀ p ∈ env, p.1 ∈ ns ∧ p.2 < 2 ^ w := fun p hp =>
  ⟨h.sub _ (List.mem_map.mpr ⟨p, hp, rfl⟩), by rw [← lk_memN h.nd hp]; exact h.lt _⟩
theorem NGood.len {w : Nat} {ns : List Str} {env : NEnv} (h : NGood w ns env) : (kyN env).length ≤ ns.length := strs_le h.nd h.sub
end DL
set_option Elab.async false
set_option linter.all false
set_option maxRecDepth 100000
set_option maxHeartbeats 2000000
set_option autoImplicit false
namespace DL
open PySem PySem.Spec L2
open PyProof.Rows hiding St
def NdR (L : NS) (r : R) : Prop := ∃ qs : NEnv, (kyN qs).Nodup ∧ (kyN qs).Pairwise leS ∧ (∀ p ∈ qs, p.2 ≠ 0) ∧ denN qs = L ∧ r = .pt (qs.map pnR)
abbrev Memo := Nat → NS
end DL
set_option Elab.async false
set_option linter.all false
set_option maxRecDepth 100000
set_option maxHeartbeats 2000000
set_option autoImplicit false
namespace DL
open PySem PySem.Spec L2
open PyProof.Rows hiding St
abbrev Nbs := Nat → Option (NS × NS)
theorem nd_le {α : Type} [DecidableEq α] : ∀ {ks ls : List α}, ks.Nodup → (∀ k ∈ ks, k ∈ ls) → ks.length ≤ ls.length
  | [], _, _, _ => Nat.zero_le _
  | k :: ks, ls, nd, h => by
    rw [List.nodup_cons] at nd
    have m := h k List.mem_cons_self
    have := nd_le (ls := ls.erase k) nd.2 fun q hq => (List.mem_erase_of_ne (fun z => nd.1 (by rw [← z]; exact hq))).mpr (h q (List.mem_cons_of_mem _ hq))
    rw [List.length_erase_of_mem m] at this
    have := List.length_pos_of_mem m
    rw [List.length_cons]
    omega
/-- what is told of places, the rest as it was -/
structure TdP (f : Nbs) (tl tl' : List R) : Prop where
  ln : tl'.length = tl.length
  no : ∀ q, f q = none → tl'[q]? = tl[q]?
  yes : ∀ q A B, f q = some (A, B) → ∃ r1 r2, tl'[q]? = some (.tup [r1, r2]) ∧ NdR A r1 ∧ NdR B r2
structure IdP (RW : Nat → Option Rw) (f : Nbs) (il il' : List R) : Prop where
  ln : il'.length = il.length
  no : ∀ q, f q = none → il'[q]? = il[q]?
  yes : ∀ q A B c p r, f q = some (A, B) → RW q = some (.iff c p r) → ∃ v, il'[q]? = some (.bl v) ∧ (v = true ↔ idleN p r B)
theorem TdP.none {f : Nbs} {tl : List R} (h : ∀ q, f q = none) : TdP f tl tl := ⟨rfl, fun _ _ => rfl, fun q A B e => by rw [h q] at e; cases e⟩
theorem IdP.none {RW : Nat → Option Rw} {f : Nbs} {tl : List R} (h : ∀ q, f q = none) : IdP RW f tl tl := ⟨rfl, fun _ _ => rfl, fun q A B c p r e => by rw [h q] at e; cases e⟩
def bwF (w : Nat) (fr t i e : Addr) : List (Str × R) := [("every", .int ((2 ^ w - 1 : Nat) : Int)), ("fronts", .o fr), ("told", .o t), ("idle", .o i), ("ends", .o e)]
def FrOk (M : MH) (e : Addr) : Option FEnv → Option R → Prop
  | none, r => r = some .non
  | some en, r => ∃ a kvs, r = some (.o a) ∧ a ≠ e ∧ M a = some (.dK kvs) ∧ ∀ b ∈ kyF en, valR kvs (.inr b) = some (f2R (lkF en b))
def Dk (M : MH) (e a : Addr) (en : NEnv) : Prop := a ≠ e ∧ M a = some (.dK (dkN en))
def MmOk (M : MH) (e : Addr) (w : Nat) (ns : List Str) (L : NS) : Option R → Prop
  | none => L = n0
  | some r => ∃ b en, r = .o b ∧ Dk M e b en ∧ NGood w ns en ∧ denN en = L
structure EsOk (n : Nat) (es : List (Key × R)) : Prop where
  nd : (es.map (·.1)).Nodup
  lt : ∀ k ∈ es.map (·.1), ∃ q : Nat, k = .inl (q : Int) ∧ q < n
structure BwSt (C : Addr) (w n : Nat) (ns : List Str) (f fr t i e : Addr) (T : Tld) (tl il : List R) (m : Memo) (M : MH) : Prop where
  A : M f = some (.ins C (bwF w fr t i e))
  F : ∃ fl, M fr = some (.lst fl) ∧ fl.length = n ∧ ∀ q, q < n → FrOk M e (T q) fl[q]?
  tM : M t = some (.lst tl)
  tn : tl.length = n
  iM : M i = some (.lst il)
  ii : il.length = n
  eM : ∃ es, M e = some (.dK es) ∧ EsOk n es ∧ ∀ q : Nat, MmOk M e w ns (m q) (valR es (.inl (q : Int)))
  ti : t ≠ i
  tf : t ≠ fr
  fi : i ≠ fr
/-- all but what it writes stays -/
def FrB (t i e : Addr) (M M' : MH) : Prop := ∀ c u, c ≠ t → c ≠ i → c ≠ e → M c = some u → M' c = some u
theorem FrB.trans {t i e : Addr} {M M1 M2 : MH} (h : FrB t i e M M1) (g : FrB t i e M1 M2) : FrB t i e M M2 := fun c u a b d q => g c u a b d (h c u a b d q)
theorem Dk.sub {M M' : MH} {e a : Addr} {en : NEnv} (h : Dk M e a en) (s : Sub M M') : Dk M' e a en := ⟨h.1, s _ _ h.2⟩
section
variable {C f fr t i e : Addr} {w n : Nat} {ns : List Str} {T : Tld} {tl il : List R} {m : Memo} {M M' : MH}
/-- dicts other than the walk's own stay so: what it holds stays -/
theorem BwSt.keep (h : BwSt C w n ns f fr t i e T tl il m M) {tl' il' : List R} (kd : ∀ c kvs, c ≠ e → M c = some (.dK kvs) → M' c = some (.dK kvs)) (ka : M' f = M f) (kf : M' fr = M fr) (ht : M' t = some (.lst tl')) (hi : M' i = some (.lst il')) (he : M' e = M e) (lt : tl'.length = tl.length) (li : il'.length = il.length) :
    BwSt C w n ns f fr t i e T tl' il' m M' := by
  obtain ⟨fl, f1, f2, f3⟩ := h.F
  obtain ⟨es, e1, e2, e3⟩ := h.eM
  refine ⟨ka.trans h.A, ⟨fl, kf.trans f1, f2, fun q hq => ?_⟩, ht, lt.trans h.tn, hi, li.trans h.ii, ⟨es, he.trans e1, e2, fun q => ?_⟩, h.ti, h.tf, h.fi⟩
  · have := f3 q hq
    cases z : T q with
    | none => rw [z] at this; exact this
    | some en =>
      rw [z] at this
      obtain ⟨a, kvs, a1, a2, a3, a4⟩ := this
      exact ⟨a, kvs, a1, a2, kd a kvs a2 a3, a4⟩
  · have := e3 q
    cases z : valR es (.inl (q : Int)) with
    | none => rw [z] at this; exact this
    | some r =>
      rw [z] at this
      obtain ⟨b, en, b1, b2, b3, b4⟩ := this
      exact ⟨b, en, b1, ⟨b2.1, kd b _ b2.1 b2.2⟩, b3, b4⟩
theorem BwSt.sub (h : BwSt C w n ns f fr t i e T tl il m M) (s : Sub M M') : BwSt C w n ns f fr t i e T tl il m M' := by
  obtain ⟨fl, f1, _⟩ := h.F
  obtain ⟨es, e1, _⟩ := h.eM
  exact h.keep (fun c kvs _ q => s _ _ q) ((s _ _ h.A).trans h.A.symm) ((s _ _ f1).trans f1.symm) (s _ _ h.tM) (s _ _ h.iM) ((s _ _ e1).trans e1.symm) rfl rfl
theorem EsOk.put {es : List (Key × R)} (h : EsOk n es) {q : Nat} (hq : q < n) (r : R) : EsOk n (putR es (.inl (q : Int)) r) := by
  unfold putR
  by_cases z : (es.any fun kv => decide (kv.1 = (.inl (q : Int) : Key))) = true
  · rw [if_pos z]
    have e : (es.map fun kv => if kv.1 = (.inl (q : Int) : Key) then (kv.1, r) else kv).map (·.1) = es.map (·.1) := by
      rw [List.map_map]
      refine List.map_congr_left fun kv _ => ?_
      show (if kv.1 = (.inl (q : Int) : Key) then (kv.1, r) else kv).1 = kv.1
      split <;> rfl
    exact ⟨by rw [e]; exact h.nd, fun k hk => h.lt k (by rw [e] at hk; exact hk)⟩
  · rw [if_neg z]
    refine ⟨?_, fun k hk => ?_⟩
    · rw [List.map_append, List.nodup_append]
      refine ⟨h.nd, by simp, fun x hx y hy e => z ?_⟩
      obtain ⟨kv, h1, h2⟩ := List.mem_map.mp hx
      rw [List.mem_singleton.mp hy] at e
      exact List.any_eq_true.mpr ⟨kv, h1, decide_eq_true (h2.trans e)⟩
    · rw [List.map_append] at hk
      rcases List.mem_append.mp hk with hk | hk
      · exact h.lt k hk
      · exact ⟨q, List.mem_singleton.mp hk, hq⟩
theorem EsOk.len {es : List (Key × R)} (h : EsOk n es) : es.length ≤ n := by
  have s : (es.map (·.1)).length ≤ ((List.range n).map fun q : Nat => (Sum.inl (q : Int) : Key)).length := by
    refine nd_le h.nd fun k hk => ?_
    obtain ⟨q, rfl, hq⟩ := h.lt k hk
    exact List.mem_map.mpr ⟨q, List.mem_range.mpr hq, rfl⟩
  rwa [List.length_map, List.length_map, List.length_range] at s
end
end DL
set_option Elab.async false
set_option linter.all false
set_option maxRecDepth 100000
set_option maxHeartbeats 2000000
set_option autoImplicit false
set_option Elab.async false
set_option linter.all false
set_option maxRecDepth 100000
set_option maxHeartbeats 2000000
set_option autoImplicit false
set_option Elab.async false
set_option linter.all false
set_option maxRecDepth 100000
set_option maxHeartbeats 2000000
set_option autoImplicit false
set_option Elab.async false
set_option linter.all false
set_option maxRecDepth 100000
set_option maxHeartbeats 2000000
set_option autoImplicit false
namespace L2
open PySem PySem.Spec PyProof.Rows
end L2
set_option Elab.async false
set_option linter.all false
set_option maxRecDepth 100000
set_option maxHeartbeats 2000000
set_option autoImplicit false
set_option Elab.async false
set_option linter.all false
set_option maxRecDepth 100000
set_option maxHeartbeats 2000000
set_option autoImplicit false
set_option Elab.async false
set_option linter.all false
set_option maxRecDepth 100000
set_option maxHeartbeats 2000000
set_option Elab.async false
set_option linter.all false
set_option maxRecDepth 100000
set_option maxHeartbeats 2000000
set_option Elab.async false
set_option linter.all false
set_option maxRecDepth 100000
set_option maxHeartbeats 2000000
set_option Elab.async false
set_option linter.all false
set_option maxRecDepth 100000
set_option maxHeartbeats 2000000
set_option autoImplicit false
namespace DL
open PySem PySem.Spec L2
open PyProof.Rows hiding St
/-- an expression by other names -/
def Xp.nm (σ : Str → Str) : Xp → Xp
  | .num n => .num n
  | .cop a => .cop (σ a)
  | .mov u a m => .mov u (σ a) m
  | .pic a b c => .pic (σ a) (σ b) (σ c)
  | .par x a b => .par x (σ a) (σ b)
/-- what goes with new names: S are told by σ, X beside -/
structure SX (σ : Str → Str) (S : List Str) (X : FEnv) : Prop where
  inj : ∀ a ∈ S, ∀ b ∈ S, σ a = σ b → a = b
  off : ∀ a ∈ S, σ a ∉ kyF X
structure KR (σ : Str → Str) (S : List Str) (X : FEnv) (ks ks' : List Str) : Prop where
  nd : ks.Nodup
  nd' : ks'.Nodup
  sb : ∀ a ∈ ks, a ∈ S
  ky : ∀ b, b ∈ ks' ↔ b ∈ ks.map σ ∨ b ∈ kyF X
theorem KR.mem {σ : Str → Str} {S : List Str} {X : FEnv} {ks ks' : List Str} (g : SX σ S X) (h : KR σ S X ks ks') {a : Str} (ha : a ∈ S) : σ a ∈ ks' ↔ a ∈ ks := by
  rw [h.ky]
  refine ⟨fun q => ?_, fun q => .inl (List.mem_map_of_mem q)⟩
  rcases q with q | q
  · obtain ⟨b, hb, e⟩ := List.mem_map.mp q
    rwa [← g.inj b (h.sb b hb) a ha e]
  · exact (g.off a ha q).elim
theorem ndSnoc {ks : List Str} {a : Str} (h : ks.Nodup) (q : a ∉ ks) : (ks ++ [a]).Nodup :=
  List.nodup_append.mpr ⟨h, List.pairwise_singleton _ _, fun x hx y hy => by rw [List.mem_singleton.mp hy]; exact fun z => q (z ▸ hx)⟩
theorem KR.put {σ : Str → Str} {S : List Str} {X : FEnv} {ks ks' : List Str} (g : SX σ S X) (h : KR σ S X ks ks') {a : Str} (ha : a ∈ S) :
    KR σ S X (if a ∈ ks then ks else ks ++ [a]) (if σ a ∈ ks' then ks' else ks' ++ [σ a]) := by
  by_cases q : a ∈ ks
  · rw [if_pos q, if_pos ((h.mem g ha).mpr q)]
    exact h
  · have q' : σ a ∉ ks' := fun z => q ((h.mem g ha).mp z)
    rw [if_neg q, if_neg q']
    refine ⟨ndSnoc h.nd q, ndSnoc h.nd' q', fun b hb => ?_, fun b => ?_⟩
    · rcases List.mem_append.mp hb with z | z
      · exact h.sb b z
      · rw [List.mem_singleton.mp z]; exact ha
    · rw [List.mem_append, List.map_append, List.mem_append, h.ky, List.map_singleton, List.mem_singleton]
      exact ⟨fun z => z.elim (fun z => z.elim (fun z => .inl (.inl z)) .inr) fun z => .inl (.inr z), fun z => z.elim (fun z => z.elim (fun z => .inl (.inl z)) .inr) fun z => .inl (.inr z)⟩
/-- facts, and the same told otherwise -/
structure ER (σ : Str → Str) (S : List Str) (X : FEnv) (e e' : FEnv) : Prop where
  k : KR σ S X (kyF e) (kyF e')
  lk : ∀ a ∈ S, lkF e' (σ a) = lkF e a
  lx : ∀ b ∈ kyF X, lkF e' b = lkF X b
section
variable {σ : Str → Str} {S : List Str} {X : FEnv}
theorem ER.pt (g : SX σ S X) {e e' : FEnv} (h : ER σ S X e e') {a : Str} (ha : a ∈ S) (f : F2) : ER σ S X (ptF e a f) (ptF e' (σ a) f) := by
  refine ⟨by rw [ky_pt, ky_pt]; exact h.k.put g ha, fun b hb => ?_, fun b hb => ?_⟩
  · rw [lk_pt, lk_pt]
    by_cases q : b = a
    · rw [if_pos q, if_pos (by rw [q])]
    · rw [if_neg q, if_neg fun z => q (g.inj b hb a ha z)]
      exact h.lk b hb
  · rw [lk_pt, if_neg fun z => g.off a ha (by rw [← z]; exact hb)]
    exact h.lx b hb
theorem ER.join (g : SX σ S X) {ks ks' : List Str} (k : KR σ S X ks ks') {e e' f f' : FEnv} (h : ER σ S X e e') (h' : ER σ S X f f') : ER σ S X (joinF ks e f) (joinF ks' e' f') := by
  refine ⟨by rw [ky_join, ky_join]; exact k, fun b hb => ?_, fun b hb => ?_⟩
  · rw [lk_join, lk_join]
    by_cases q : b ∈ ks
    · rw [if_pos q, if_pos ((k.mem g hb).mpr q), h.lk b hb, h'.lk b hb]
    · rw [if_neg q, if_neg fun z => q ((k.mem g hb).mp z)]
  · rw [lk_join, if_pos ((k.ky b).mpr (.inr hb)), h.lx b hb, h'.lx b hb, common_self]
theorem envx : ∀ {e f : FEnv}, kyF e = kyF f → (kyF e).Nodup → (∀ a ∈ kyF e, lkF e a = lkF f a) → e = f
  | [], [], _, _, _ => rfl
  | [], _ :: _, h, _, _ => by cases h
  | _ :: _, [], h, _, _ => by cases h
  | (a, u) :: e, (b, v) :: f, h, n, l => by
    unfold kyF at h n l
    rw [List.map_cons, List.map_cons] at h
    rw [List.map_cons] at n l
    obtain ⟨h1, h2⟩ := List.cons.inj h
    have h1 : a = b := h1
    subst h1
    obtain ⟨n1, n2⟩ := List.nodup_cons.mp n
    have e1 := l a List.mem_cons_self
    rw [lkF, lkF, if_pos rfl, if_pos rfl] at e1
    have e1 : u = v := e1
    subst e1
    rw [envx (e := e) (f := f) h2 n2 fun c hc => by
      have := l c (List.mem_cons_of_mem _ hc)
      have na : a ≠ c := fun z => n1 (by rw [z]; exact hc)
      rwa [lkF, lkF, if_neg na, if_neg na] at this]
/-- what stays, stays told otherwise -/
theorem ER.stop (g : SX σ S X) {b b' c c' : FEnv} (h : ER σ S X b b') (h' : ER σ S X c c') (k : kyF c = kyF b) (k' : kyF c' = kyF b') : c = b ↔ c' = b' := by
  constructor
  · intro e
    refine envx k' (by rw [k']; exact h.k.nd') fun a ha => ?_
    rw [k'] at ha
    rcases (h.k.ky a).mp ha with z | z
    · obtain ⟨d, hd, rfl⟩ := List.mem_map.mp z
      rw [h'.lk d (h.k.sb d hd), h.lk d (h.k.sb d hd), e]
    · rw [h'.lx a z, h.lx a z]
  · intro e
    refine envx k (by rw [k]; exact h.k.nd) fun a ha => ?_
    rw [k] at ha
    have hs := h.k.sb a ha
    rw [← h'.lk a hs, ← h.lk a hs, e]
end
end DL
set_option Elab.async false
set_option linter.all false
set_option maxRecDepth 100000
set_option maxHeartbeats 2000000
set_option Elab.async false
set_option linter.all false
set_option maxRecDepth 100000
set_option maxHeartbeats 2000000
set_option autoImplicit false
namespace DL
open PySem PySem.Spec L2
open PyProof.Rows hiding St
mutual
def Rw.nm (σ : Str → Str) : Rw → Rw
  | .set a e => .set (σ a) (e.nm σ)
  | .tell a => .tell (σ a)
  | .iff a p q => .iff (σ a) (Rw.nml σ p) (Rw.nml σ q)
  | .rnd n p => .rnd n (Rw.nml σ p)
def Rw.nml (σ : Str → Str) : List Rw → List Rw
  | [] => []
  | x :: xs => x.nm σ :: Rw.nml σ xs
end
end DL
set_option Elab.async false
set_option linter.all false
set_option maxRecDepth 100000
set_option maxHeartbeats 2000000
set_option Elab.async false
set_option linter.all false
set_option maxRecDepth 100000
set_option maxHeartbeats 2000000
set_option Elab.async false
set_option linter.all false
set_option maxRecDepth 100000
set_option maxHeartbeats 2000000
namespace DL
open PySem PySem.Spec L2
open PyProof.Rows hiding St
mutual
def R.cl : R → Bool
  | .non => true
  | .int _ => true
  | .str _ => true
  | .tup rs => R.cls rs
  | .lst rs => R.cls rs
  | _ => false
def R.cls : List R → Bool
  | [] => true
  | r :: rs => r.cl && R.cls rs
end
end DL
set_option Elab.async false
set_option linter.all false
set_option maxRecDepth 100000
set_option maxHeartbeats 2000000
namespace DL
open PySem PySem.Spec L2
open PyProof.Rows hiding St
def rReprA (K : PySem.W.Frag) : List V → Hp → VK → Prop := fun xs H Q => ∃ v d, xs = [v] ∧ Dp K H v d ∧ d.showable = true ∧ d.hasDict = false ∧ d.depth ≤ 50 ∧ d.shown.length ≤ sizeLine ∧ Q (.str d.shown) H
theorem call_reprA {X : Cx} {k : Nat} (hr : RoomG k X.A) : CallR X (.builtin "repr") (rReprA X.K) := by
  intro pins s σ H xs us Q I rv h
  obtain ⟨v, d, rfl, hd, h1, h2, h3, h4, q⟩ := h
  obtain ⟨u, rfl, r⟩ := vals1 rv
  have hu := hr.hu
  cases v with
  | non =>
    cases hd
    cases r
    exact PySem.P.repr_of_none ⟨.str _, H, I.tok _, ⟨_, rfl⟩, q⟩
  | bl b =>
    cases hd
    cases r
    cases b with
    | true => exact PySem.P.repr_of_bool ⟨.str _, H, I.tok _, ⟨_, rfl⟩, q⟩
    | false => exact PySem.P.repr_of_bool ⟨.str _, H, I.tok _, ⟨_, rfl⟩, q⟩
  | int i =>
    cases hd
    obtain ⟨t, rfl⟩ := r
    exact PySem.P.repr_of_int (of_decide_eq_true h1) ⟨.str _, H, I.tok _, ⟨_, rfl⟩, q⟩
  | str x =>
    cases hd
    obtain ⟨t, rfl⟩ := r
    exact PySem.P.repr_of_str ⟨.str _, H, I.tok _, ⟨_, rfl⟩, q⟩ h4
  | ref a =>
    cases r
    obtain ⟨as, rd⟩ := Dp.reads I d _ _ hd rfl
    refine repr_of_reads' rd h1 (fun z => by rw [h2] at z; cases z) hr.g (by omega) (fun _ _ z => z) (fun h' u tk hk => ?_) h4
    exact ⟨.str _, H, I.kept (h' := h') (t' := tk) hk, ⟨_, rfl⟩, q⟩
  | _ => cases hd
end DL
set_option Elab.async false
set_option linter.all false
set_option maxRecDepth 100000
set_option maxHeartbeats 2000000
namespace DL
open PySem PySem.Spec L2
open PyProof.Rows hiding St
section
variable {X : Cx} {pins : List (Addr × Obj)} {σ : L2.St} {H : Hp} {sI s s' : Shared} {B : Heap} {a : Addr} {cls : Value} {d : Option Addr} {oe : Obj} {vs : Array Value}
theorem exk_ok {P : Program} {w : World} {h : Heap} {G : Hp} (e : h.get? a = some oe) (z : Zc cls d oe) (f : oe.data = .fields vs) : ObjOk P w G h a (exk a cls d) :=
  ⟨⟨oe, vs, e, z, f⟩, ⟨oe, e⟩, fun _ _ ⟨o, v, q, r⟩ k => ⟨o, v, k o q, r⟩⟩
/-- the state behind a catch: the exception is tracked -/
theorem landE (I : Inv X pins σ H sI) (nb : ∀ b o, sI.heap.get? b = some o → b ∉ frs X.stack → B.get? b = some o) (st : B.StaysIn s'.heap) (up : sI.heap.UpToSlots s'.heap) (os : s'.os = sI.os) (ag : AllBare s'.gens)
    (hB : B.get? a = none) (nf : a ∉ frs X.stack) (na : H a = none) (e : s'.heap.get? a = some oe) (z : Zc cls d oe) (f : oe.data = .fields vs) : Inv X pins σ (upd H a (exk a cls d)) s' := by
  have J := I.landed nb st up os ag
  have hne : ∀ {b : Addr} {o : Obj}, sI.heap.get? b = some o → b ≠ a := fun {b o} q y => by
    subst y
    have := nb _ o q nf
    rw [hB] at this
    cases this
  refine I.call' (ch := []) os ⟨fun b o q _ hb _ => st b o (nb b o q hb), fun b o q _ hb _ => ?_, fun b o q n _ => by rw [upd_ne (hne q)]; exact n, fun b o q _ => ?_, fun b xs q => by rw [upd_ne (ne_of_none q na)]; exact q,
    fun b o xs q => by rw [upd_ne (ne_of_none q na)]; exact q, fun b ps q => ⟨#[], by rw [upd_ne (ne_of_none q na), q]; simp⟩⟩ (J.hok.laidN (fun _ _ q => q) na (exk_ok e z f)) ag (fun _ y => nomatch y)
  · obtain ⟨_, o1, q1, hd⟩ := I.stack.mem hb
    rw [q] at q1
    cases q1
    exact up b o q hd
  · by_cases hb : b ∈ frs X.stack
    · obtain ⟨_, o1, q1, hd⟩ := I.stack.mem hb
      rw [q] at q1
      cases q1
      obtain ⟨sl, r⟩ := up b o q hd
      exact ⟨_, r⟩
    · exact ⟨o, st b o (nb b o q hb)⟩
theorem toSuite (I : Inv X pins σ H s) (b : Addr) : Inv (X.suite b (X.pn ++ pins)) [] σ H s :=
  ⟨I.ok.suite b (X.pn ++ pins), I.os, I.bare, I.base, I.loc, I.cell, I.free, I.freeC, fun p hp => I.pin p (by rw [List.append_nil] at hp; exact hp), I.hok, I.len⟩
theorem ofSuite {b : Addr} (I : Inv (X.suite b (X.pn ++ pins)) [] σ H s) (ok : X.Ok) : Inv X pins σ H s :=
  ⟨ok, I.os, I.bare, I.base, I.loc, I.cell, I.free, I.freeC, fun p hp => I.pin p (by rw [List.append_nil]; exact hp), I.hok, I.len⟩
/-- what follows behind the suite: its name is gone -/
def goneE (i : Nat) (D : Ends) : Ends := ⟨fun σ H => D.nx (σ.set i none) H, D.rt, fun σ H => D.bk (σ.set i none) H, fun σ H => D.ct (σ.set i none) H⟩
theorem try_hold {x n : Str} {c : Value} {i : Nat} {body su : List Stmt} {b₀ : Stmt} {np pos pos' : Pos} {D : Ends} (hs : X.stack = X.env :: X.outer) (hf : X.env.frame = some X.env.locals) (hN : X.N.Nodup) (hi : X.N[i]? = some n)
    (hl : X.env.kindOf n = some .local) (hc : Names X x c) (I : Inv X pins σ H s) (W2 : WX)
    (hW : ∀ cls d σ2 H2, W2 cls d σ2 H2 → PySem.W.exmOne X.K cls c = some true ∧ ∀ a, H2 a = none → ∀ s1, Inv (X.suite a (X.pn ++ pins)) [] (σ2.set i (some (.ref a))) (upd H2 a (exk a cls d)) s1 →
      wpAny (model X.prog X.w) (X.A.mark (some (.ref a))) (execs (b₀ :: su) X.env) (SP (X.suite a (X.pn ++ pins)) [] (goneE i D)) (fun _ _ => False) s1)
    (hb : ∀ xe, Takes (X.tr (X.pn ++ pins) xe) W2 → PassesOwn (model X.prog X.w) X.A X.env xe → wpAny (model X.prog X.w) X.A (execs body X.env) (SP (X.tr (X.pn ++ pins) xe) [] D) xe s) :
    wpAny (model X.prog X.w) X.A (exec (.Try body [.ExceptHandler (some (.Name x np)) (some n) (b₀ :: su) pos'] [] [] pos) X.env) (SP X pins D) X.xe s := by
  have ok := I.ok
  have fr2 : X.A.frames = some (X.env :: X.outer) := ok.frames.trans (congrArg some hs)
  have catch_ : Takes (X.tr (X.pn ++ pins) (fun u s1 => wpAny (model X.prog X.w) X.A (noteFrame u X.env) (fun _ s2 => wpAny (model X.prog X.w) X.A (setFlight u none) (fun _ s3 =>
      wpAny (model X.prog X.w) X.A (handleBy u X.env [.ExceptHandler (some (.Name x np)) (some n) (b₀ :: su) pos']) (SP X pins D) X.xe s3) X.xe s2) X.xe s1)) W2 := by
    intro u s2 air
    obtain ⟨b, G, s0, pins2, σ2, H2, c2, d2, rfl, J0, nb, up, sky, na, os, ag, w2⟩ := air
    have J := J0.ofTry ok
    obtain ⟨hm, run⟩ := hW _ _ _ _ w2
    have sky2 : Sky G (X.env :: X.outer) b (Zc c2 d2) X.env.locals s2.heap := hs ▸ sky
    show wpAny (model X.prog X.w) X.A (noteFrame (.ref b) X.env) _ _ _
    refine Sky.land Zc.steady fr2 hf sky2 fun h1 f1 up1 => ?_
    have J1 : Inv X pins σ2 H2 { s2 with heap := h1 } := J.landed nb f1.1 (up.trans up1) os ag
    have S1 := toSuite J1 b
    obtain ⟨o1, v1, e1, z1, q1⟩ := f1.there
    have nfr : b ∉ frs X.stack := fun hb => by
      rw [hs] at hb
      obtain ⟨_, o2, e2, nd⟩ := f1.2.2.1.mem hb
      rw [e1] at e2
      cases e2
      exact nd _ q1
    refine wpAny_handleBy_cons (codeAny_handlers_test ?_) (fun y => nomatch y)
    have look : PySem.W.Looks (model X.prog X.w) h1 (excMatches (.ref b) c) true := PySem.W.exm_one J1.kIn (fun A Q E s k q => wpAny_typeOf_ref (k _ _ e1) (by rw [z1.1]; exact q)) hm
    have named : ∀ {Q : Value → Shared → Prop} {E : Value → Shared → Prop}, Q c { s2 with heap := h1 } → wpAny (model X.prog X.w) (X.A.mark (some (.ref b))) (eval (.Name x np) X.env) Q E { s2 with heap := h1 } := by
      intro Q E q
      obtain ⟨g1, g2, g3 | ⟨g3, g4, g5⟩⟩ := hc
      · exact ld_glob S1 g1 g3 q g2
      · exact ld_blt S1 g1 g3 g4 q g5 g2
    refine named (look.here (codeAny_handlers_suite_as (HandSPX.lands_againZ f1 fun h4 f4 up4 => ?_)))
    obtain ⟨o4, v4, e4, z4, q4⟩ := f4.there
    have J4 : Inv X pins σ2 (upd H2 b (exk b c2 d2)) { s2 with heap := h4 } := landE J nb f4.1 ((up.trans up1).trans up4) os ag f4.2.1 nfr na e4 z4 q4
    refine store_ok (X := X.suite b (X.pn ++ pins)) (v := .ref b) (toSuite J4 b) hN hi (.inl hl) rfl (fun s5 S5 => ?_) (.inr hl)
    refine wpAny_mono (run b na s5 S5) (fun f s6 hsp => ?_) (fun _ _ y => y.elim)
    have over : ∀ {σ6 : L2.St} {H6 : Hp} {Q : Shared → Prop}, Inv (X.suite b (X.pn ++ pins)) [] σ6 H6 s6 → (∀ s7, Inv X pins (σ6.set i none) H6 s7 → Q s7) →
        wpAny (model X.prog X.w) X.A (do bindName X.env n .none; unbindBehindTheSuite X.env n pos') (fun _ s7 => Q s7) X.xe s6 := fun S q => gone_ok (ofSuite S ok) hN hi hl q
    cases f with
    | ret u => obtain ⟨v6, σ6, H6, S6, r6, q6⟩ := hsp; exact over S6 fun s7 K7 => ⟨v6, _, H6, K7, r6, q6⟩
    | next => obtain ⟨σ6, H6, S6, q6⟩ := hsp; exact over S6 fun s7 K7 => ⟨_, H6, K7, q6⟩
    | brk => obtain ⟨σ6, H6, S6, q6⟩ := hsp; exact over S6 fun s7 K7 => ⟨_, H6, K7, q6⟩
    | cont => obtain ⟨σ6, H6, S6, q6⟩ := hsp; exact over S6 fun s7 K7 => ⟨_, H6, K7, q6⟩
  refine wpAny_Try_except (wpAny_mono (hb _ catch_ PassesOwn.looking) (fun f s1 hsp => ?_) fun _ _ y => y)
  cases f with
  | next => obtain ⟨σ6, H6, S6, q6⟩ := hsp; exact wpAny_execs_nil ⟨σ6, H6, S6.ofTry ok, q6⟩
  | ret u => obtain ⟨v6, σ6, H6, S6, r6, q6⟩ := hsp; exact ⟨v6, σ6, H6, S6.ofTry ok, r6, q6⟩
  | brk => obtain ⟨σ6, H6, S6, q6⟩ := hsp; exact ⟨σ6, H6, S6.ofTry ok, q6⟩
  | cont => obtain ⟨σ6, H6, S6, q6⟩ := hsp; exact ⟨σ6, H6, S6.ofTry ok, q6⟩
end
def exR (cls : Value) : Option (List (Str × R)) → R
  | none => .ex cls [] []
  | some fs => .ex cls (fs.map (·.1)) (fs.map (·.2))
theorem krv_parts {K : PySem.W.Frag} {J : Jp} : ∀ {fs : List (Str × R)} {ws : List (Str × V)}, KRV K J fs ws → ws = (fs.map (·.1)).zip (ws.map (·.2)) ∧ (fs.map (·.1)).length = (ws.map (·.2)).length ∧ RVs K J (fs.map (·.2)) (ws.map (·.2))
  | _, _, .nil => ⟨rfl, rfl, .nil⟩
  | (f, r) :: fs, (g, v) :: ws, .cons ⟨e, h⟩ t => by
    obtain ⟨i1, i2, i3⟩ := krv_parts t
    have e2 : f = g := e
    subst e2
    refine ⟨?_, by simpa using i2, .cons h i3⟩
    show (f, v) :: ws = (f, v) :: (fs.map (·.1)).zip (ws.map (·.2))
    rw [← i1]
theorem exR_rv {K : PySem.W.Frag} {J : Jp} {H : Hp} {M : MH} {a : Addr} {cls : Value} {d : Option Addr} {fs : Option (List (Str × R))} (D : DSt K J H M) (na : H a = none) (x : XD K J H d fs) : RV K (J.put a (exk a cls d)) (exR cls fs) (.ref a) := by
  have e : Ex J (J.put a (exk a cls d)) := Ex.new (D.jnone na)
  cases d with
  | none =>
    cases fs with
    | none => exact .ex (d := none) (upd_same) ⟨rfl, rfl⟩ .nil
    | some fs => exact x.elim
  | some d =>
    cases fs with
    | none => exact x.elim
    | some fs =>
      obtain ⟨ws, h1, h2⟩ := x
      obtain ⟨i1, i2, i3⟩ := krv_parts h2
      exact .ex (d := some d) (upd_same) ⟨by rw [← i1]; exact e.1 _ _ h1, i2⟩ (i3.mono e)
def DEnds.wx (D : DEnds) (f : Value → Option (List (Str × R)) → G → MH → Prop) : DEnds := ⟨D.nx, D.rt, f, D.bk, D.ct⟩
def DEnds.gone (D : DEnds) (i : Nat) : DEnds := ⟨fun g M => D.nx (g.set i none) M, D.rt, fun _ _ _ _ => False, fun g M => D.bk (g.set i none) M, fun g M => D.ct (g.set i none) M⟩
/-- try: b, except c as the name at i: su -/
def sTry (K : PySem.W.Frag) (c : Value) (i : Nat) (b su : WS) : WS := fun D g M => b (D.wx fun cls fs g2 M2 => PySem.W.exmOne K cls c = some true ∧ su (D.gone i) (g2.set i (some (exR cls fs))) M2) g M
section
variable {X : Cx} {W : WW} {pos : Pos}
theorem ds_try (i : Nat) {x n : Str} {c : Value} {body su : List Stmt} {b₀ : Stmt} {np pos' : Pos} {b sw : WS} (hs : X.stack = X.env :: X.outer) (hf : X.env.frame = some X.env.locals) (hN : X.N.Nodup) (hm : X.mg x = some c)
    (hb : ∀ (W2 : WW) (pn : List (Addr × Obj)) (xe : Value → Shared → Prop), Takes (X.tr pn xe) W2 → PassesOwn (model X.prog X.w) X.A X.env xe → DSs (X.tr pn xe) W2 body b)
    (hsu : ∀ (a : Addr) (pn : List (Addr × Obj)), DSs (X.suite a pn) (fun _ _ _ _ => False) (b₀ :: su) sw) (hi : X.N[i]? = some n := by rfl) (hl : X.env.kindOf n = some .local := by rfl)
    (hg : Gl X x := by rfl) (hdb : (x == ("__debug__" : Str)) = false := by decide) :
    DS X W (.Try body [.ExceptHandler (some (.Name x np)) (some n) (b₀ :: su) pos'] [] [] pos) (sTry X.K c i b sw) := by
  refine ⟨fun E σ H => ∃ J g M D, DSt X.K J H M ∧ RG X.K J g σ ∧ sTry X.K c i b sw D g M ∧ Conts X.K J D W E, ⟨fun pins s σ H E I h => ?_⟩, fun J H σ g M D E d rg h ct => ⟨J, g, M, D, d, rg, h, ct⟩⟩
  obtain ⟨J, g, M, D, d, rg, h, ct⟩ := h
  refine try_hold hs hf hN hi hl ⟨hg, hdb, .inl hm⟩ I
    (fun cls dd σ2 H2 => ∃ J1 fs g1 M1, PySem.W.exmOne X.K cls c = some true ∧ sw (D.gone i) (g1.set i (some (exR cls fs))) M1 ∧ Ex J J1 ∧ DSt X.K J1 H2 M1 ∧ RG X.K J1 g1 σ2 ∧ XD X.K J1 H2 dd fs) ?_ ?_
  · rintro cls dd σ2 H2 ⟨J1, fs, g1, M1, h1, h2, e1, d1, rg1, x1⟩
    refine ⟨h1, fun a na s1 I1 => ?_⟩
    obtain ⟨ts, ps, ss⟩ := hsu a (X.pn ++ pins)
    have e2 : Ex J1 (J1.put a (exk a cls dd)) := Ex.new (d1.jnone na)
    have e3 := e1.trans e2
    refine ps.run [] s1 _ _ (goneE i E) I1 (ss (J1.put a (exk a cls dd)) _ _ _ M1 (D.gone i) (goneE i E) (d1.new na) ((rg1.mono e2).set i (exR_rv d1 na x1)) h2 ⟨?_, ?_, ?_, ?_, ?_⟩)
    · exact fun g6 σ6 J6 H6 M6 p e d6 r6 => ct.nx _ _ J6 H6 M6 p (e3.trans e) d6 (r6.wipe [i])
    · exact ct.rt.mono e3
    · exact fun g6 σ6 J6 H6 M6 p e d6 r6 => ct.bk _ _ J6 H6 M6 p (e3.trans e) d6 (r6.wipe [i])
    · exact fun g6 σ6 J6 H6 M6 p e d6 r6 => ct.ct _ _ J6 H6 M6 p (e3.trans e) d6 (r6.wipe [i])
    · exact fun _ _ _ _ _ _ _ _ z => z.elim
  · intro xe tk po
    obtain ⟨tb, pb, sb⟩ := hb _ (X.pn ++ pins) xe tk po
    exact pb.run [] s σ H E (I.toTry _) (sb J H σ g M _ E d rg h ⟨ct.nx, ct.rt, ct.bk, ct.ct, fun cls fs dd g1 σ1 J1 H1 M1 p e d1 rg1 x => ⟨J1, fs, g1, M1, p.1, p.2, e, d1, rg1, x⟩⟩)
/-- raise C("..") -/
def sRaise (cls : Value) : WS := fun D g M => D.xc cls none g M
theorem ds_raise {x m : Str} {C : Addr} {j : Nat} {p p2 pos' : Pos} (hc : X.calm = true) (tk : Takes X W) (q : PySem.W.excIn X.K C He.veBase "ValueError.__new__" = true) (gC : X.mg x = some (.ref C)) (kC : PySem.W.keepIn X.K (.ref C) = true)
    (r : PySem.W.subIn X.K (.ref C) (.type "BaseException") = some true) (ty : PySem.W.typeIn X.K (.ref C) = some (.type "type")) (hg : Gl X x := by rfl) (hdb : (x == ("__debug__" : Str)) = false := by decide) :
    DS X W (.Raise (some (.Call (.Name x p) [.Constant (.str m) j p2] [] pos)) none pos') (sRaise (.ref C)) :=
  ⟨_, ps_raise hc tk (pmk_own F.excBase_ValueError q gC kC (raises_own r ty) hg hdb), fun J H σ g M D E d rg h ct => ct.xc (.ref C) none none g σ J H M h Ex.rfl' d rg trivial⟩
end
end DL
set_option Elab.async false
set_option linter.all false
set_option maxRecDepth 100000
set_option maxHeartbeats 2000000
namespace DL
open PySem PySem.Spec L2
open PyProof.Rows hiding St
def DictAt (H : Hp) (d : Option Addr) : Prop := ∀ dx, d = some dx → ∃ fs, H dx = some (.xd fs)
theorem exk_at {P : Program} {w : World} {H : Hp} {h : Heap} {a C : Addr} {d : Option Addr} (hok : HOk P w H h) (e : H a = some (exk a (.ref C) d)) (hd : DictAt H d) : ∃ oe od, PySem.W.InstAt h a oe C od ∧ oe.dict = d ∧ (∀ dx fs, d = some dx → H dx = some (.xd fs) → ∃ mA : Str → Option Value, (∀ f, RelO (fs.lookup f) (mA f)) ∧ ∃ o, od = some o ∧ ∀ n, PySem.W.lookIn n o = some (mA n)) := by
  have x : ObjOk P w H h a (exk a (.ref C) d) := hok a _ e
  obtain ⟨⟨oe, vs, e1, z1, f1⟩, _⟩ := x
  cases d with
  | none => exact ⟨oe, none, ⟨e1, z1.1, by unfold PySem.W.notCls; rw [f1] <;> rfl, by rw [z1.2]; trivial⟩, z1.2, fun dx fs y => nomatch y⟩
  | some dx =>
    obtain ⟨fs, hf⟩ := hd dx rfl
    have x2 : ObjOk P w H h dx (.xd fs) := hok dx _ hf
    obtain ⟨mA, hns, r⟩ := x2
    obtain ⟨od, ho, hl⟩ := lookIn_ns hns
    refine ⟨oe, some od, ⟨e1, z1.1, by unfold PySem.W.notCls; rw [f1] <;> rfl, by rw [z1.2]; exact ho⟩, z1.2, fun dx2 fs2 y1 y2 => ?_⟩
    cases y1
    rw [hf] at y2
    cases y2
    exact ⟨mA, r, od, rfl, hl⟩
/-- what a class argument is: one class, or a tuple of them -/
def ClsArg (K : PySem.W.Frag) (H : Hp) (t : Value) (c : V) (b : Bool) : Prop :=
  (∃ cv, (∀ u, RelV c u → u = cv) ∧ PySem.W.kitOne K t cv = some b) ∨ ∃ (tp : Addr) (bs : List Addr), c = .ref tp ∧ SqT K H tp (bs.map V.ref) ∧ PySem.W.kitAny K t (bs.map Value.ref) = some b
def rIsX (K : PySem.W.Frag) : List V → Hp → VK → Prop := fun xs H Q => ∃ (c : V) (b : Bool), Q (.bl b) H ∧
  ((∃ a C d, xs = [.ref a, c] ∧ XcOk K C ∧ H a = some (exk a (.ref C) d) ∧ DictAt H d ∧ ClsArg K H (.ref C) c b) ∨ (xs = [.non, c] ∧ ClsArg K H (.type "NoneType") c b))
theorem isi_arg {X : Cx} {pins : List (Addr × Obj)} {σ : L2.St} {H : Hp} {s : Shared} {x t : Value} {S : Heap → Prop} {c : V} {cu : Value} {b : Bool} {Q : Value → Shared → Prop} (Z : PySem.W.KitX X.K x t S) (I : Inv X pins σ H s) (p : S s.heap) (h : ClsArg X.K H t c b) (r : RelV c cu)
    (hx : x ≠ .builtin "__main__.__loader__#opaque") (q : ∀ tk, Q (.bool b) { s with toks := tk }) : wpAny (model X.prog X.w) X.A (call (.builtin "isinstance") [x, cu]) Q X.xe s := by
  rcases h with ⟨cv, h1, h2⟩ | ⟨tp, bs, rfl, h1, h2⟩
  · have e := h1 _ r
    subst e
    exact PySem.W.kia_one Z I.kIn p h2 hx q
  · obtain rfl : cu = Value.ref tp := r
    obtain ⟨its, rv, ⟨o, ho, hc, n, hd⟩, _⟩ := I.tuple h1
    have e := refs_vals rv
    subst e
    obtain ⟨oc, od, oda, osl⟩ := o
    dsimp only at hc hd
    subst hc hd
    exact PySem.W.kia_tup Z I.kIn p ho h2 hx q
theorem call_isX {X : Cx} : CallR X (.builtin "isinstance") (rIsX X.K) := by
  intro pins s σ H xs us Q I r h
  obtain ⟨c, b, q, ⟨a, C, d, rfl, T, e, hd, hc⟩ | ⟨rfl, hc⟩⟩ := h
  · cases r with
    | cons rx rr =>
      cases rr with
      | cons rt rr =>
        cases rr
        cases rx
        obtain ⟨oe, od, J, _, _⟩ := exk_at I.hok e hd
        exact isi_arg (PySem.W.kitx_exc (ox := oe) (od := od) T.hcl T.ga T.gg T.sb T.ac T.sp T.tk T.mo) I J hc rt (fun z => nomatch z) fun tk => ⟨.bl b, H, I.kept (t' := tk) fun _ _ z => z, rfl, q⟩
  · cases r with
    | cons rx rr =>
      cases rr with
      | cons rt rr =>
        cases rr
        cases rx
        exact isi_arg PySem.W.kitx_none I trivial hc rt (fun z => nomatch z) fun tk => ⟨.bl b, H, I.kept (t' := tk) fun _ _ z => z, rfl, q⟩
/-- the classes of an argument, as data -/
def ClsR (K : PySem.W.Frag) (t : Value) (c : R) (b : Bool) : Prop := match c with
  | .o C => PySem.W.kitOne K t (.ref C) = some b
  | .ty T => PySem.W.kitOne K t (.type T.nm) = some b
  | .tup rs => ∃ bs : List Addr, rs = bs.map R.o ∧ PySem.W.kitAny K t (bs.map Value.ref) = some b
  | _ => False
def fIsX (K : PySem.W.Frag) : DC := fun xs M P => match xs with
  | [.ex cls _ _, c] => ∃ C b, cls = .ref C ∧ XcOk K C ∧ ClsR K cls c b ∧ P (.bl b) M
  | [.non, c] => ∃ b, ClsR K (.type "NoneType") c b ∧ P (.bl b) M
  | _ => False
section
variable {K : PySem.W.Frag}
theorem os_rv {J : Jp} : ∀ {bs : List Addr} {vs : List V}, RVs K J (bs.map R.o) vs → vs = bs.map V.ref
  | [], _, .nil => rfl
  | _ :: _, _, .cons a t => by
    cases a
    rw [os_rv t]; rfl
theorem clsR_arg {J : Jp} {H : Hp} {M : MH} {t : Value} {c : R} {v : V} {b : Bool} (d : DSt K J H M) (r : RV K J c v) (h : ClsR K t c b) : ClsArg K H t v b := by
  cases r with
  | o C => exact .inl ⟨.ref C, fun u y => y, h⟩
  | ty T => exact .inl ⟨.type T.nm, fun u y => y, h⟩
  | tup h1 h2 =>
    obtain ⟨bs, rfl, h3⟩ := h
    have := os_rv h2
    subst this
    exact .inr ⟨_, bs, rfl, d.ex.sqT h1, h3⟩
  | _ => exact h.elim
theorem ex_dict {J : Jp} {H : Hp} {M : MH} {dd : Option Addr} {ns : List Str} {vs : List V} (d : DSt K J H M) (x : ExAt J.j dd ns vs) : DictAt H dd := fun dx y => by
  subst y
  exact ⟨_, d.ex _ _ x.1⟩
theorem sc_isX : SimCall K (rIsX K) (fIsX K) := by
  intro J H M rs vs P Q d rv h c
  unfold fIsX at h
  split at h
  · obtain ⟨v, u, rfl, r1, r2⟩ := pair_of rv
    obtain ⟨C, b, e, T, hc, p⟩ := h
    cases r1 with
    | ex e1 e2 _ =>
      subst e
      exact ⟨u, b, c _ _ J H M p Ex.rfl' d (.bl _), .inl ⟨_, C, _, rfl, T, d.ex _ _ e1, ex_dict d e2, clsR_arg d r2 hc⟩⟩
  · obtain ⟨v, u, rfl, r1, r2⟩ := pair_of rv
    obtain ⟨b, hc, p⟩ := h
    cases r1
    exact ⟨u, b, c _ _ J H M p Ex.rfl' d (.bl _), .inr ⟨rfl, clsR_arg d r2 hc⟩⟩
  · exact h.elim
end
end DL
set_option Elab.async false
set_option linter.all false
set_option maxRecDepth 100000
set_option maxHeartbeats 2000000
namespace DL
open PySem PySem.Spec L2
open PyProof.Rows hiding St
def textV (v : V) : Prop := (∃ i : Int, v = .int i ∧ i.natAbs < 2 ^ 128) ∨ ∃ x : Str, v = .str x ∧ x.length ≤ 200
def textR : R → Prop
  | .int i => i.natAbs < 2 ^ 128
  | .str x => x.length ≤ 200
  | _ => False
theorem textR_v {K : PySem.W.Frag} {J : Jp} {r : R} {v : V} (h : RV K J r v) (t : textR r) : textV v := by
  cases h with
  | int i => exact .inl ⟨i, rfl, t⟩
  | str x => exact .inr ⟨x, rfl, t⟩
  | _ => exact t.elim
def rStrU : List V → Hp → VK → Prop := fun xs H Q => (∃ i, xs = [.int i] ∧ i.natAbs.log2 < 1920 ∧ Q (.str (toString i)) H) ∨ ∃ a, xs = [.str a] ∧ Q (.str a) H
theorem call_strU {X : Cx} : CallR X (.type "str") rStrU := CallR.or call_str_int SkE.call_str_str
/-- a text of two values -/
def TxE (n : Nat) (te : TE) : Prop := ∀ (a : Addr) (v1 v2 : V) (H : Hp) (Q : VK), textV v1 → textV v2 → (∀ x : Str, x.length ≤ n → Q (.str x) H) → te [some (.ref a), some v1, some v2] H Q
structure PTx (X : Cx) (e : Expr) (n : Nat) : Prop where
  ex : ∃ te, PE X e te ∧ TxE n te
section
variable {X : Cx} {pos : Pos}
theorem ptx_str {x : Str} {j : Nat} (n : Nat) (h : x.length ≤ n := by decide) : PTx X (.Constant (.str x) j pos) n := ⟨_, pe_str, fun a v1 v2 H Q _ _ q => q x h⟩
theorem log2_lt {i : Int} (h : i.natAbs < 2 ^ 128) : i.natAbs.log2 < 1920 := by
  by_cases z : i.natAbs = 0
  · rw [z]; decide
  · have := (Nat.log2_lt z).mpr h
    omega
theorem text_one {v : V} {H : Hp} {Q : VK} (t : textV v) (q : ∀ x : Str, x.length ≤ 200 → Q (.str x) H) : rStrU [v] H Q := by
  rcases t with ⟨i, rfl, h⟩ | ⟨x, rfl, h⟩
  · exact .inl ⟨i, rfl, log2_lt h, q _ (Nat.le_trans (intText_le h) (by decide))⟩
  · exact .inr ⟨x, rfl, q x h⟩
theorem ptx_v1 {x : Str} {p p2 : Pos} (hm : X.mg "str" = none) (hN : X.N[1]? = some x := by rfl) (hv : Vis X.env.scope x := by first | exact Or.inl rfl | exact Or.inr (Or.inl rfl) | exact Or.inr (Or.inr rfl)) (hd : (x == ("__debug__" : Str)) = false := by decide)
    (hcd : (x == ("__classdict__" : Str)) = false := by decide) (hg : Gl X "str" := by rfl) (he : starEach [.Name x p2] X.env = (false, eval (.Name x p2) X.env) :: starEach [] X.env := by rfl) (hpl : (backTo pos (starEach [] X.env)).any (·.1) = false := by rfl) :
    PTx X (.Call (.Name "str" p) [.Name x p2] [] pos) 200 :=
  ⟨_, pe_callTy call_strU hg hm (by decide +kernel) (pa_cons (pe_var hN hv hd hcd) pa_nil he) (by decide) (by decide) he hpl, fun a v1 v2 H Q t1 t2 q => ⟨v1, rfl, text_one t1 q⟩⟩
theorem ptx_v2 {x : Str} {p p2 : Pos} (hm : X.mg "str" = none) (hN : X.N[2]? = some x := by rfl) (hv : Vis X.env.scope x := by first | exact Or.inl rfl | exact Or.inr (Or.inl rfl) | exact Or.inr (Or.inr rfl)) (hd : (x == ("__debug__" : Str)) = false := by decide)
    (hcd : (x == ("__classdict__" : Str)) = false := by decide) (hg : Gl X "str" := by rfl) (he : starEach [.Name x p2] X.env = (false, eval (.Name x p2) X.env) :: starEach [] X.env := by rfl) (hpl : (backTo pos (starEach [] X.env)).any (·.1) = false := by rfl) :
    PTx X (.Call (.Name "str" p) [.Name x p2] [] pos) 200 :=
  ⟨_, pe_callTy call_strU hg hm (by decide +kernel) (pa_cons (pe_var hN hv hd hcd) pa_nil he) (by decide) (by decide) he hpl, fun a v1 v2 H Q t1 t2 q => ⟨v2, rfl, text_one t2 q⟩⟩
theorem ptx_add {e f : Expr} {n m : Nat} (h1 : PTx X e n) (h2 : PTx X f m) (hz : n + m ≤ 10000 := by decide) : PTx X (.BinOp e .Add f pos) (n + m) := by
  obtain ⟨t1, p1, q1⟩ := h1
  obtain ⟨t2, p2, q2⟩ := h2
  refine ⟨_, pe_op op_add_str p1 p2, fun a v1 v2 H Q w1 w2 q => ?_⟩
  refine q1 a v1 v2 H _ w1 w2 fun x hx => q2 a v1 v2 H _ w1 w2 fun y hy => ⟨x, y, rfl, rfl, ?_, q _ ?_⟩
  · have : (10000 : Nat) ≤ sizeLine := by decide
    omega
  · rw [Str.length_append]; omega
/-- BitError.__init__(self, text) -/
theorem pe_binit {b : Str} {CB : Addr} {e : Expr} {es : List Expr} {ta : TA} {p1 p2 : Pos} {pl : Sem Bool} (hm : X.mg b = some (.ref CB)) (sg : PySem.W.specialIn X.K (.ref CB) "__getattribute__" = some (some (.builtin "type.__getattribute__"))) (rd : PySem.W.readsIn X.K CB (.type "type") = true)
    (fc : PySem.W.findCls X.K (.ref CB) (.type "type") "__init__" = some (.val (.builtin "ValueError.__init__"))) (ha : PA X (e :: es) ta) (hg : Gl X b := by rfl) (hdb : (b == ("__debug__" : Str)) = false := by decide)
    (hc : eval (.Call (.Attribute (.Name b p1) "__init__" p2) (e :: es) [] pos) X.env = (do
      let ov ← eval (.Name b p1) X.env
      standAt p2.atName
      let (f, first) ← holding [ov] (getMethod ov "__init__" pl)
      callWith pos f first (backTo pos (starEach (e :: es) X.env)) (backToKw pos (keywordEach [] X.env))) := by rfl)
    (he : starEach (e :: es) X.env = (false, eval e X.env) :: starEach es X.env := by rfl) (hpl : (backTo pos (starEach es X.env)).any (·.1) = false := by rfl) :
    PE X (.Call (.Attribute (.Name b p1) "__init__" p2) (e :: es) [] pos) (tVeI X.K ta) := by
  refine ⟨fun pins s σ H Q I h => PySem.W.methodCall_KW (ld_glob I hg hm ?_ hdb) hc⟩
  refine PySem.W.method_cls I.kIn sg (PySem.W.cls_value I.kIn rd fc (by decide +kernel) ?_)
  show wpAny _ _ (callWith pos (Value.builtin "ValueError.__init__") [] (backTo pos (starEach (e :: es) X.env)) []) _ _ _
  refine PyProof.Rows.callWith_method1 (thn (ha.run pos pins _ σ H _ (I.tok _) h) ?_) he hpl
  rintro us s2 ⟨vs, H1, I1, r1, a, C, ws, rfl, hz, T, ea, q⟩
  cases r1 with
  | @cons _ u0 _ ur ra rt =>
    obtain rfl : u0 = Value.ref a := ra
    exact oinit_ok T I1 ea (by rw [← Paired.length rt, sizeLine_eq]; omega) fun s3 J => ⟨.non, H1, J, rfl, q⟩
/-- what such an __init__ does -/
def initSp (K : PySem.W.Frag) (f1 f2 : Str) : Sp := fun vs H Q _ => ∃ (a C : Addr) (v1 v2 : V), vs = [.ref a, v1, v2] ∧ OexC K C ∧ PySem.W.findIn K (.ref C) f1 = some none ∧ PySem.W.findIn K (.ref C) f2 = some none ∧ H a = some (exo a C none) ∧ textV v1 ∧ textV v2 ∧
  ∀ dx, H dx = none → dx ≠ a → Q .non (upd (upd (upd H dx (exd dx [(f1, v1)])) a (exo a C (some dx))) dx (exd dx [(f2, v2), (f1, v1)]))
theorem init_pss {b self x1 x2 f1 f2 : Str} {CB : Addr} {text : Expr} {n : Nat} {p1 p2 p3 p4 p5 q1 q2 q3 q4 r1 r2 r3 r4 : Pos} {vs : List V} {H : Hp} {Q : VK} {E : XK} (hm : X.mg b = some (.ref CB))
    (sg : PySem.W.specialIn X.K (.ref CB) "__getattribute__" = some (some (.builtin "type.__getattribute__"))) (rd : PySem.W.readsIn X.K CB (.type "type") = true) (fc : PySem.W.findCls X.K (.ref CB) (.type "type") "__init__" = some (.val (.builtin "ValueError.__init__")))
    (ht : PTx X text n) (c1 : PE X (.Call (.Attribute (.Name b p1) "__init__" p2) [.Name self p3, text] [] p4) (tVeI X.K (tCons (tVar 0) (tCons ht.ex.choose tNil)))) (w1 : swapsWith (.Call (.Attribute (.Name b p1) "__init__" p2) [.Name self p3, text] [] p4) none p5.line X.env = pure false)
    (v0 : PE X (.Name self q1) (tVar 0)) (v0' : PE X (.Name self r1) (tVar 0)) (v1 : PE X (.Name x1 q3) (tVar 1)) (v2 : PE X (.Name x2 r3) (tVar 2))
    (s1 : swapsWith (.Name x1 q3) (some (.Attribute (.Name self q1) f1 q2)) q4.line X.env = pure false) (s2 : swapsWith (.Name x2 r3) (some (.Attribute (.Name self r1) f2 r2)) r4.line X.env = pure false) (hne : f1 ≠ f2) (h : initSp X.K f1 f2 vs H Q E) :
    ∃ t, PSs X [.Expr (.Call (.Attribute (.Name b p1) "__init__" p2) [.Name self p3, text] [] p4) p5, .Assign [.Attribute (.Name self q1) f1 q2] (.Name x1 q3) q4, .Assign [.Attribute (.Name self r1) f2 r2] (.Name x2 r3) r4] t ∧
      t { nx := fun _ H' => Q .non H', rt := Q } (start [self, x1, x2] vs) H := by
  refine ⟨_, pss_cons (ps_expr c1 w1) (pss_cons (ps_ost v0 v1 s1) (pss_cons (ps_ost v0' v2 s2) pss_nil)), ?_⟩
  obtain ⟨a, C, u1, u2, rfl, T, n1, n2, ea, t1, t2, q⟩ := h
  have ht2 := ht.ex.choose_spec.2
  refine ⟨.ref a, rfl, ht2 a u1 u2 H _ t1 t2 fun x _ => ⟨a, C, [.str x], rfl, by show (1 : Nat) ≤ 1000; decide, T, ea, ?_⟩⟩
  refine ⟨u1, rfl, .ref a, rfl, a, C, rfl, T, n1, .inl ⟨ea, fun dx hd hda => ?_⟩⟩
  refine ⟨u2, rfl, .ref a, rfl, a, C, rfl, T, n2, .inr ⟨dx, [(f1, u1)], upd_same, ?_, by show (1 : Nat) ≤ 900; decide, ?_⟩⟩
  · rw [upd_ne hda]; exact upd_same
  · exact q dx hd hda
end
end DL
set_option Elab.async false
set_option linter.all false
set_option maxRecDepth 100000
set_option maxHeartbeats 2000000
namespace DL
open PySem PySem.Spec L2
open PyProof.Rows hiding St
theorem mk2_heap {H1 : Hp} {a dx : Addr} {o1 o2 o3 o4 o5 : HO} (na : H1 a = none) (hda : dx ≠ a) : upd (L2.del (upd (upd (upd (upd H1 a o1) dx o2) a o3) dx o4) a) dx o5 = upd H1 dx o5 := by
  funext b
  by_cases h1 : b = dx
  · rw [h1, upd_same, upd_same]
  · rw [upd_ne h1, upd_ne h1]
    by_cases h2 : b = a
    · rw [h2, L2.del_same, na]
    · rw [L2.del_ne h2, upd_ne h1, upd_ne h2, upd_ne h1, upd_ne h2]
/-- two arguments, then what follows -/
def wArg2 (wa : WA) (P : R → R → MH → Prop) : G → MH → DX → Prop := fun g M xw => wa g M (fun rs M1 => match rs with
  | [r1, r2] => textR r1 ∧ textR r2 ∧ P r1 r2 M1
  | _ => False) xw
theorem mk2_sim {K : PySem.W.Frag} {W : WW} {C : Addr} {f1 f2 : Str} {ta : TA} {wa : WA} {P : R → R → MH → Prop} {J : Jp} {H : Hp} {σ : L2.St} {g : G} {M : MH} {xw : DX} {Q : XK} (T : XiOk K C f1 f2) (sa : SimA K W 2 ta wa) (d : DSt K J H M) (rg : RG K J g σ)
    (h : wArg2 wa P g M xw) (cx : ContX K J xw fun c d H => W c d σ H)
    (q : ∀ r1 r2 J1 H1 M1 dx ws, P r1 r2 M1 → Ex J J1 → DSt K (J1.put dx (.xd ws)) (upd H1 dx (.xd ws)) M1 → Ex J1 (J1.put dx (.xd ws)) → XD K (J1.put dx (.xd ws)) (upd H1 dx (.xd ws)) (some dx) (some [(f2, r2), (f1, r1)]) → Q (.ref C) (some dx) (upd H1 dx (.xd ws))) :
    tMkO C (initSp K f1 f2) [] ta σ H Q := by
  refine sa J H σ g M _ xw _ d rg h (fun rs vs J1 H1 M1 p1 l1 e1 d1 rv => ?_) cx
  split at p1
  · rename_i r1 r2
    obtain ⟨v1, v2, rfl, q1, q2⟩ := pair_of rv
    obtain ⟨t1, t2, p⟩ := p1
    refine ⟨by show (2 : Nat) ≤ 1000; decide, fun a na => ⟨a, C, v1, v2, rfl, T.ox, T.n1, T.n2, upd_same, textR_v q1 t1, textR_v q2 t2, fun dx hd hda => ⟨rfl, dx, [(f2, v2), (f1, v1)], ?_, upd_same, ?_, ?_⟩⟩⟩
    · rw [upd_ne (Ne.symm hda)]; exact upd_same
    · rw [upd_ne hda] at hd; exact hd
    · rw [upd_ne hda] at hd
      rw [mk2_heap na hda]
      have e2 : Ex J1 (J1.put dx (.xd [(f2, v2), (f1, v1)])) := Ex.new (d1.jnone hd)
      exact q r1 r2 J1 H1 M1 dx _ p e1 (d1.new hd) e2 ⟨_, upd_same, .cons ⟨rfl, q2.mono e2⟩ (.cons ⟨rfl, q1.mono e2⟩ .nil)⟩
  · exact p1.elim
def sRaise2 (cls : Value) (f1 f2 : Str) (wa : WA) : WS := fun D g M => wArg2 wa (fun r1 r2 M1 => D.xc cls (some [(f2, r2), (f1, r1)]) g M1) g M (fun c f M' => D.xc c f g M')
section
variable {X : Cx} {W : WW} {pos : Pos} {x : Str} {C : Addr} {k : Nat} {fd : FuncData} {ps : List Str} {f1 f2 : Str} {p p' : Pos} {e e2 : Expr} {wa : WA}
theorem ds_raise2 (hc : X.calm = true) (tk : Takes X W) (T : XiOk X.K C f1 f2) (F1 : FnOk X.prog X.w X.K X.mg X.base (L2.CX X.prog X.w) k (He.ma X.K C "__init__") fd ps (initSp X.K f1 f2)) (hr : RoomG (k + 1) X.A) (hb : Binds X.K fd ps [])
    (hm : X.mg x = some (.ref C)) (ha : DA X W [e, e2] wa) (hg : Gl X x := by rfl) (hdb : (x == ("__debug__" : Str)) = false := by decide) (he : starEach [e, e2] X.env = (false, eval e X.env) :: starEach [e2] X.env := by rfl) (hpl : (backTo pos (starEach [e2] X.env)).any (·.1) = false := by rfl) :
    DS X W (.Raise (some (.Call (.Name x p) [e, e2] [] pos)) none p') (sRaise2 (.ref C) f1 f2 wa) := by
  obtain ⟨ta, pa, sa⟩ := ha
  refine ⟨_, ps_raise hc tk (pmk_oex T.ox T.iC T.tI F1 hr.r hb .nil (passes_call tk fun _ _ _ _ z => z.elim) hg hm pa hdb he hpl), fun J H σ g M D E d rg h ct => ?_⟩
  exact mk2_sim T sa d rg h (ct.x rg) fun r1 r2 J1 H1 M1 dx ws p e1 d2 e3 x2 => ct.xc _ _ _ g σ _ _ M1 p (e1.trans e3) d2 (rg.mono (e1.trans e3)) x2
theorem ds_raise0 {m : Str} {j : Nat} {p2 : Pos} (hc : X.calm = true) (tk : Takes X W) (q : PySem.W.excIn X.K C He.veBase "ValueError.__new__" = true) (gC : X.mg x = some (.ref C)) (T : XcOk X.K C) (hg : Gl X x := by rfl) (hdb : (x == ("__debug__" : Str)) = false := by decide) :
    DS X W (.Raise (some (.Call (.Name x p) [.Constant (.str m) j p2] [] pos)) none p') (sRaise (.ref C)) := ds_raise hc tk q gC T.kp T.sb T.ty hg hdb
end
end DL
set_option Elab.async false
set_option linter.all false
set_option maxRecDepth 100000
set_option maxHeartbeats 2000000
namespace DL
open PySem PySem.Spec L2
open PyProof.Rows hiding St
section
variable {P : Program} {w : World} {K : PySem.W.Frag} {mg : Str → Option Value} {base : Heap} {k : Nat} {f : Addr} {fd : FuncData} {ps : List Str}
/-- an own list, told as one that stays -/
def fzR (Q : DP) : DP := fun r M' => match r with
  | .o a => ∃ xs, M' a = some (.lst xs) ∧ Q (.lst xs) (eraseM M' a)
  | r => Q r M'
def fzS (S : DSp) : DSp := fun rs M Q xw => S rs M (fzR Q) xw
theorem DFn.fzS {S : DSp} (F : DFn P w K mg base k f fd ps S) : DFn P w K mg base k f fd ps (fzS S) := by
  refine ⟨fun _ _ _ _ q => q.1, fun A outer s H args us vs Q E r g e b v ⟨l, J, M, rs, Pp, xw, d, rv, h, c, cx⟩ => ?_⟩
  refine F.run A outer s H args us vs Q E r g e b v ⟨l, J, M, rs, _, xw, d, rv, h, ?_, cx⟩
  intro r v J' H' M' h2 e' d' rv'
  unfold fzR at h2
  split at h2
  · obtain ⟨xs, q1, q2⟩ := h2
    cases rv'
    obtain ⟨J2, e2, d2, r2⟩ := d'.freeze q1 eraseM_sub eraseM_same
    exact c _ _ J2 H' _ q2 (e'.trans e2) d2 r2
  · exact c _ _ J' H' M' h2 e' d' rv'
end
section
variable {K : PySem.W.Frag}
/-- sorted(xs) of texts, an own list -/
def fSortSSO : DC := fun xs M P => match xs with
  | [x] => ∃ ns : List Str, LsOf M x (ns.map R.str) ∧ ns.length < 64 ∧ ∀ ys : List Str, ys.Perm ns → sortedS ys = true → ∀ a, M a = none → P (.o a) (updM M a (.lst (ys.map R.str)))
  | _ => False
theorem sc_sortSSO : SimCall K (rSortedS K) fSortSSO := by
  intro J H M rs vs P Q d rv h c
  unfold fSortSSO at h
  split at h
  · obtain ⟨v, rfl, r⟩ := one_of rv
    obtain ⟨ns, h1, h2, h3⟩ := h
    obtain ⟨a, us, rfl, l, r2⟩ := h1.get d r
    cases vstrs r2
    exact ⟨a, ns, rfl, l.sq, h2, fun ys p q1 q2 hp => newO d c (h3 ys q1 q2) (strs_rv ys) p hp⟩
  · exact h.elim
/-- each by itself -/
def PyOfs (M : MH) : List R → List PyData → Prop
  | [], [] => True
  | x :: xs, d :: ds => PyOf M x d ∧ PyOfs M xs ds
  | _, _ => False
theorem PyOfs.dp {J : Jp} {H : Hp} {M : MH} (d : DSt K J H M) : ∀ {xs : List R} {vs : List V} {ds : List PyData}, RVs K J xs vs → PyOfs M xs ds → DpAll K H vs ds
  | [], _, [], .nil, _ => .nil
  | x :: xs, _, dd :: ds, .cons r rs, ⟨h1, h2⟩ => .cons (h1.dp d r) (PyOfs.dp d rs h2)
  | [], _, _ :: _, .nil, h => h.elim
  | _ :: _, _, [], .cons _ _, h => h.elim
/-- repr of a list of own lists -/
def fReprL : DC := fun xs M P => match xs with
  | [.lst rs] => ∃ ds, PyOfs M rs ds ∧ (PyData.list ds).showable = true ∧ (PyData.list ds).hasDict = false ∧ (PyData.list ds).depth ≤ 50 ∧ (PyData.list ds).shown.length ≤ sizeLine ∧ P (.str (PyData.list ds).shown) M
  | _ => False
theorem sc_reprL : SimCall K (rReprA K) fReprL := by
  intro J H M rs vs P Q d rv h c
  unfold fReprL at h
  split at h
  · obtain ⟨v, rfl, r⟩ := one_of rv
    obtain ⟨ds, h1, h2, h3, h4, h5, h6⟩ := h
    cases r with
    | lst q1 q2 =>
      exact ⟨_, .list ds, rfl, .lst (.inl (.inl (d.ex _ _ q1))) (h1.dp d q2), h2, h3, h4, h5, c _ _ J H M h6 Ex.rfl' d (.str _)⟩
  · exact h.elim
end
end DL
set_option Elab.async false
set_option linter.all false
set_option maxRecDepth 100000
set_option maxHeartbeats 2000000
set_option autoImplicit true
namespace DL
open PySem PySem.Spec L2
open PyProof.Rows hiding St
theorem sc_Unsound_init : FnScope ["self", "place", "what"] ["self", "place", "what"] (defScope s_Unsound_init) := ⟨rfl, rfl, rfl, by decide +kernel, rfl, by decide +kernel, by decide +kernel⟩
theorem sc_is_whole : FnScope ["thing", "least", "most"] ["thing", "least", "most"] (defScope s_is_whole) := ⟨rfl, rfl, rfl, by decide +kernel, rfl, by decide +kernel, by decide +kernel⟩
theorem sc_is_name : FnScope ["thing", "letter"] ["thing"] (defScope s_is_name) := ⟨rfl, rfl, rfl, by decide +kernel, rfl, by decide +kernel, by decide +kernel⟩
theorem sc_full : FnScope ["wide"] ["wide"] (defScope s_full) := ⟨rfl, rfl, rfl, by decide +kernel, rfl, by decide +kernel, by decide +kernel⟩
theorem sc_is_expr : FnScope ["thing", "wide", "count", "name"] ["thing", "wide"] (defScope s_is_expr) := ⟨rfl, rfl, rfl, by decide +kernel, rfl, by decide +kernel, by decide +kernel⟩
theorem sc_has_form : FnScope ["thing", "wide"] ["thing", "wide"] (defScope s_has_form) := ⟨rfl, rfl, rfl, by decide +kernel, rfl, by decide +kernel, by decide +kernel⟩
theorem sc_inner_rows : FnScope ["row"] ["row"] (defScope s_inner_rows) := ⟨rfl, rfl, rfl, by decide +kernel, rfl, by decide +kernel, by decide +kernel⟩
theorem sc_are_rows : FnScope ["thing", "wide", "many", "waiting", "rows", "deep", "turned", "row", "more", "way"] ["thing", "wide"] (defScope s_are_rows) := ⟨rfl, rfl, rfl, by decide +kernel, rfl, by decide +kernel, by decide +kernel⟩
theorem sc_is_program : FnScope ["thing", "one"] ["thing"] (defScope s_is_program) := ⟨rfl, rfl, rfl, by decide +kernel, rfl, by decide +kernel, by decide +kernel⟩
theorem sc_rows_within : FnScope ["rows", "found", "row", "way"] ["rows"] (defScope s_rows_within) := ⟨rfl, rfl, rfl, by decide +kernel, rfl, by decide +kernel, by decide +kernel⟩
theorem sc_uses : FnScope ["row", "one"] ["row"] (defScope s_uses) := ⟨rfl, rfl, rfl, by decide +kernel, rfl, by decide +kernel, by decide +kernel⟩
theorem sc_names_behind : FnScope ["row", "known", "other", "name"] ["row", "known"] (defScope s_names_behind) := ⟨rfl, rfl, rfl, by decide +kernel, rfl, by decide +kernel, by decide +kernel⟩
theorem sc_names_at_end : FnScope ["rows", "known", "row"] ["rows", "known"] (defScope s_names_at_end) := ⟨rfl, rfl, rfl, by decide +kernel, rfl, by decide +kernel, by decide +kernel⟩
theorem sc_first_lacking : FnScope ["rows", "known", "place", "row", "way", "found", "name"] ["rows", "known", "place"] (defScope s_first_lacking) := ⟨rfl, rfl, rfl, by decide +kernel, rfl, by decide +kernel, by decide +kernel⟩
theorem sc_steps_of : FnScope ["rows", "found", "row"] ["rows"] (defScope s_steps_of) := ⟨rfl, rfl, rfl, by decide +kernel, rfl, by decide +kernel, by decide +kernel⟩
theorem sc_first_wrong : FnScope ["program", "place"] ["program"] (defScope s_first_wrong) := ⟨rfl, rfl, rfl, by decide +kernel, rfl, by decide +kernel, by decide +kernel⟩
theorem sc_need_program : FnScope ["thing", "wrong"] ["thing"] (defScope s_need_program) := ⟨rfl, rfl, rfl, by decide +kernel, rfl, by decide +kernel, by decide +kernel⟩
theorem sc_places_of : FnScope ["program"] ["program"] (defScope s_places_of) := ⟨rfl, rfl, rfl, by decide +kernel, rfl, by decide +kernel, by decide +kernel⟩
theorem sc_set_places : FnScope ["program", "place", "row"] ["program"] (defScope s_set_places) := ⟨rfl, rfl, rfl, by decide +kernel, rfl, by decide +kernel, by decide +kernel⟩
theorem sc_need_place : FnScope ["program", "place"] ["program", "place"] (defScope s_need_place) := ⟨rfl, rfl, rfl, by decide +kernel, rfl, by decide +kernel, by decide +kernel⟩
theorem sc_names_ahead : FnScope ["rows", "known", "place", "row", "way", "many"] ["rows", "known", "place"] (defScope s_names_ahead) := ⟨rfl, rfl, rfl, by decide +kernel, rfl, by decide +kernel, by decide +kernel⟩
theorem sc_names_at : FnScope ["program", "place"] ["program", "place"] (defScope s_names_at) := ⟨rfl, rfl, rfl, by decide +kernel, rfl, by decide +kernel, by decide +kernel⟩
theorem sc__law_begin : FnScope ["script"] ["script"] (defScope s__law_begin) := ⟨rfl, rfl, rfl, by decide +kernel, rfl, by decide +kernel, by decide +kernel⟩
theorem sc__law_mixed : FnScope ["cell", "k", "number"] ["cell", "k"] (defScope s__law_mixed) := ⟨rfl, rfl, rfl, by decide +kernel, rfl, by decide +kernel, by decide +kernel⟩
theorem sc__law_next : FnScope ["draw", "many", "found", "cells", "cell"] ["draw", "many"] (defScope s__law_next) := ⟨rfl, rfl, rfl, by decide +kernel, rfl, by decide +kernel, by decide +kernel⟩
theorem sc__law_words : FnScope ["draw", "many", "most", "letters", "found", "size", "word", "left", "k", "one"] ["draw", "many", "most"] (defScope s__law_words) := ⟨rfl, rfl, rfl, by decide +kernel, rfl, by decide +kernel, by decide +kernel⟩
theorem sc__law_number : FnScope ["draw", "wide", "way", "top", "at"] ["draw", "wide"] (defScope s__law_number) := ⟨rfl, rfl, rfl, by decide +kernel, rfl, by decide +kernel, by decide +kernel⟩
theorem sc__law_expr : FnScope ["draw", "wide", "known", "way", "names", "most", "words", "k"] ["draw", "wide", "known"] (defScope s__law_expr) := ⟨rfl, rfl, rfl, by decide +kernel, rfl, by decide +kernel, by decide +kernel⟩
theorem sc__law_rows : FnScope ["draw", "made", "known", "deep", "found", "there", "k", "way", "name", "sides", "ahead", "ways", "ends", "side", "many", "rows", "some", "one"] ["draw", "made", "known", "deep"] (defScope s__law_rows) := ⟨rfl, rfl, rfl, by decide +kernel, rfl, by decide +kernel, by decide +kernel⟩
theorem sc__law_steps : FnScope ["rows", "found", "row"] ["rows"] (defScope s__law_steps) := ⟨rfl, rfl, rfl, by decide +kernel, rfl, by decide +kernel, by decide +kernel⟩
theorem sc__law_fewer : FnScope ["rows", "found", "row"] ["rows"] (defScope s__law_fewer) := ⟨rfl, rfl, rfl, by decide +kernel, rfl, by decide +kernel, by decide +kernel⟩
theorem sc__law_program : FnScope ["draw", "wide", "inputs", "most", "names", "made", "rows", "there", "ends", "k"] ["draw", "wide", "inputs", "most"] (defScope s__law_program) := ⟨rfl, rfl, rfl, by decide +kernel, rfl, by decide +kernel, by decide +kernel⟩
theorem sc__law_ways : FnScope ["row"] ["row"] (defScope s__law_ways) := ⟨rfl, rfl, rfl, by decide +kernel, rfl, by decide +kernel, by decide +kernel⟩
theorem sc__law_flat : FnScope ["rows", "found", "row", "way"] ["rows"] (defScope s__law_flat) := ⟨rfl, rfl, rfl, by decide +kernel, rfl, by decide +kernel, by decide +kernel⟩
theorem sc__law_behind : FnScope ["row", "there", "other", "name"] ["row", "there"] (defScope s__law_behind) := ⟨rfl, rfl, rfl, by decide +kernel, rfl, by decide +kernel, by decide +kernel⟩
theorem sc__law_end : FnScope ["rows", "there", "row"] ["rows", "there"] (defScope s__law_end) := ⟨rfl, rfl, rfl, by decide +kernel, rfl, by decide +kernel, by decide +kernel⟩
theorem sc__law_used : FnScope ["row", "one"] ["row"] (defScope s__law_used) := ⟨rfl, rfl, rfl, by decide +kernel, rfl, by decide +kernel, by decide +kernel⟩
theorem sc__law_ahead : FnScope ["rows", "there", "place", "row", "way", "found", "left"] ["rows", "there", "place"] (defScope s__law_ahead) := ⟨rfl, rfl, rfl, by decide +kernel, rfl, by decide +kernel, by decide +kernel⟩
theorem sc__law_twin : FnScope ["thing", "one"] ["thing"] (defScope s__law_twin) := ⟨rfl, rfl, rfl, by decide +kernel, rfl, by decide +kernel, by decide +kernel⟩
theorem sc__law_nobody : FnScope ["program", "standing", "row", "word"] ["program"] (defScope s__law_nobody) := ⟨rfl, rfl, rfl, by decide +kernel, rfl, by decide +kernel, by decide +kernel⟩
theorem sc__law_said : FnScope ["deed", "program", "place", "e", "error", "found", "word", "is_so"] ["deed", "program", "place"] (defScope s__law_said) := ⟨rfl, rfl, rfl, by decide +kernel, rfl, by decide +kernel, by decide +kernel⟩
theorem sc__law_right : FnScope ["draw", "program", "rows", "spots", "place", "due", "turn", "found", "one", "k", "row"] ["draw", "program"] (defScope s__law_right) := ⟨rfl, rfl, rfl, by decide +kernel, rfl, by decide +kernel, by decide +kernel⟩
theorem sc__law_great : FnScope ["draw", "letters", "at", "words", "k", "word"] ["draw"] (defScope s__law_great) := ⟨rfl, rfl, rfl, by decide +kernel, rfl, by decide +kernel, by decide +kernel⟩
theorem sc_law : FnScope ["script", "draw", "turn", "program", "kept", "none", "lone", "many", "place", "deed", "twin"] ["script"] (defScope s_law) := ⟨rfl, rfl, rfl, by decide +kernel, rfl, by decide +kernel, by decide +kernel⟩
structure Txt (w : World) (K : PySem.W.Frag) (mg : Str → Option Value) where
  d_is_whole : FuncData
  F_is_whole : FunD K "is_whole" "is_whole" (defArgs s_is_whole) (defBody s_is_whole) (defScope s_is_whole) [] [] (He.ga K "is_whole") d_is_whole
  g_is_whole : mg "is_whole" = some (.ref (He.ga K "is_whole"))
  d_is_name : FuncData
  F_is_name : FunD K "is_name" "is_name" (defArgs s_is_name) (defBody s_is_name) (defScope s_is_name) [] [] (He.ga K "is_name") d_is_name
  g_is_name : mg "is_name" = some (.ref (He.ga K "is_name"))
  d_full : FuncData
  F_full : FunD K "full" "full" (defArgs s_full) (defBody s_full) (defScope s_full) [] [] (He.ga K "full") d_full
  g_full : mg "full" = some (.ref (He.ga K "full"))
  d_is_expr : FuncData
  F_is_expr : FunD K "is_expr" "is_expr" (defArgs s_is_expr) (defBody s_is_expr) (defScope s_is_expr) [] [] (He.ga K "is_expr") d_is_expr
  g_is_expr : mg "is_expr" = some (.ref (He.ga K "is_expr"))
  d_has_form : FuncData
  F_has_form : FunD K "has_form" "has_form" (defArgs s_has_form) (defBody s_has_form) (defScope s_has_form) [] [] (He.ga K "has_form") d_has_form
  g_has_form : mg "has_form" = some (.ref (He.ga K "has_form"))
  d_inner_rows : FuncData
  F_inner_rows : FunD K "inner_rows" "inner_rows" (defArgs s_inner_rows) (defBody s_inner_rows) (defScope s_inner_rows) [] [] (He.ga K "inner_rows") d_inner_rows
  g_inner_rows : mg "inner_rows" = some (.ref (He.ga K "inner_rows"))
  d_are_rows : FuncData
  F_are_rows : FunD K "are_rows" "are_rows" (defArgs s_are_rows) (defBody s_are_rows) (defScope s_are_rows) [] [] (He.ga K "are_rows") d_are_rows
  g_are_rows : mg "are_rows" = some (.ref (He.ga K "are_rows"))
  d_is_program : FuncData
  F_is_program : FunD K "is_program" "is_program" (defArgs s_is_program) (defBody s_is_program) (defScope s_is_program) [] [] (He.ga K "is_program") d_is_program
  g_is_program : mg "is_program" = some (.ref (He.ga K "is_program"))
  d_rows_within : FuncData
  F_rows_within : FunD K "rows_within" "rows_within" (defArgs s_rows_within) (defBody s_rows_within) (defScope s_rows_within) [] [] (He.ga K "rows_within") d_rows_within
  g_rows_within : mg "rows_within" = some (.ref (He.ga K "rows_within"))
  d_uses : FuncData
  F_uses : FunD K "uses" "uses" (defArgs s_uses) (defBody s_uses) (defScope s_uses) [] [] (He.ga K "uses") d_uses
  g_uses : mg "uses" = some (.ref (He.ga K "uses"))
  d_names_behind : FuncData
  F_names_behind : FunD K "names_behind" "names_behind" (defArgs s_names_behind) (defBody s_names_behind) (defScope s_names_behind) [] [] (He.ga K "names_behind") d_names_behind
  g_names_behind : mg "names_behind" = some (.ref (He.ga K "names_behind"))
  d_names_at_end : FuncData
  F_names_at_end : FunD K "names_at_end" "names_at_end" (defArgs s_names_at_end) (defBody s_names_at_end) (defScope s_names_at_end) [] [] (He.ga K "names_at_end") d_names_at_end
  g_names_at_end : mg "names_at_end" = some (.ref (He.ga K "names_at_end"))
  d_first_lacking : FuncData
  F_first_lacking : FunD K "first_lacking" "first_lacking" (defArgs s_first_lacking) (defBody s_first_lacking) (defScope s_first_lacking) [] [] (He.ga K "first_lacking") d_first_lacking
  g_first_lacking : mg "first_lacking" = some (.ref (He.ga K "first_lacking"))
  d_steps_of : FuncData
  F_steps_of : FunD K "steps_of" "steps_of" (defArgs s_steps_of) (defBody s_steps_of) (defScope s_steps_of) [] [] (He.ga K "steps_of") d_steps_of
  g_steps_of : mg "steps_of" = some (.ref (He.ga K "steps_of"))
  d_first_wrong : FuncData
  F_first_wrong : FunD K "first_wrong" "first_wrong" (defArgs s_first_wrong) (defBody s_first_wrong) (defScope s_first_wrong) [] [] (He.ga K "first_wrong") d_first_wrong
  g_first_wrong : mg "first_wrong" = some (.ref (He.ga K "first_wrong"))
  d_need_program : FuncData
  F_need_program : FunD K "need_program" "need_program" (defArgs s_need_program) (defBody s_need_program) (defScope s_need_program) [] [] (He.ga K "need_program") d_need_program
  g_need_program : mg "need_program" = some (.ref (He.ga K "need_program"))
  d_places_of : FuncData
  F_places_of : FunD K "places_of" "places_of" (defArgs s_places_of) (defBody s_places_of) (defScope s_places_of) [] [] (He.ga K "places_of") d_places_of
  g_places_of : mg "places_of" = some (.ref (He.ga K "places_of"))
  d_set_places : FuncData
  F_set_places : FunD K "set_places" "set_places" (defArgs s_set_places) (defBody s_set_places) (defScope s_set_places) [] [] (He.ga K "set_places") d_set_places
  g_set_places : mg "set_places" = some (.ref (He.ga K "set_places"))
  d_need_place : FuncData
  F_need_place : FunD K "need_place" "need_place" (defArgs s_need_place) (defBody s_need_place) (defScope s_need_place) [] [] (He.ga K "need_place") d_need_place
  g_need_place : mg "need_place" = some (.ref (He.ga K "need_place"))
  d_names_ahead : FuncData
  F_names_ahead : FunD K "names_ahead" "names_ahead" (defArgs s_names_ahead) (defBody s_names_ahead) (defScope s_names_ahead) [] [] (He.ga K "names_ahead") d_names_ahead
  g_names_ahead : mg "names_ahead" = some (.ref (He.ga K "names_ahead"))
  d_names_at : FuncData
  F_names_at : FunD K "names_at" "names_at" (defArgs s_names_at) (defBody s_names_at) (defScope s_names_at) [] [] (He.ga K "names_at") d_names_at
  g_names_at : mg "names_at" = some (.ref (He.ga K "names_at"))
  d__law_begin : FuncData
  F__law_begin : FunD K "_law_begin" "_law_begin" (defArgs s__law_begin) (defBody s__law_begin) (defScope s__law_begin) [] [] (He.ga K "_law_begin") d__law_begin
  g__law_begin : mg "_law_begin" = some (.ref (He.ga K "_law_begin"))
  d__law_mixed : FuncData
  F__law_mixed : FunD K "_law_mixed" "_law_mixed" (defArgs s__law_mixed) (defBody s__law_mixed) (defScope s__law_mixed) [] [] (He.ga K "_law_mixed") d__law_mixed
  g__law_mixed : mg "_law_mixed" = some (.ref (He.ga K "_law_mixed"))
  d__law_next : FuncData
  F__law_next : FunD K "_law_next" "_law_next" (defArgs s__law_next) (defBody s__law_next) (defScope s__law_next) [] [] (He.ga K "_law_next") d__law_next
  g__law_next : mg "_law_next" = some (.ref (He.ga K "_law_next"))
  d__law_words : FuncData
  F__law_words : FunD K "_law_words" "_law_words" (defArgs s__law_words) (defBody s__law_words) (defScope s__law_words) [] [] (He.ga K "_law_words") d__law_words
  g__law_words : mg "_law_words" = some (.ref (He.ga K "_law_words"))
  d__law_number : FuncData
  F__law_number : FunD K "_law_number" "_law_number" (defArgs s__law_number) (defBody s__law_number) (defScope s__law_number) [] [] (He.ga K "_law_number") d__law_number
  g__law_number : mg "_law_number" = some (.ref (He.ga K "_law_number"))
  d__law_expr : FuncData
  F__law_expr : FunD K "_law_expr" "_law_expr" (defArgs s__law_expr) (defBody s__law_expr) (defScope s__law_expr) [] [] (He.ga K "_law_expr") d__law_expr
  g__law_expr : mg "_law_expr" = some (.ref (He.ga K "_law_expr"))
  d__law_rows : FuncData
  F__law_rows : FunD K "_law_rows" "_law_rows" (defArgs s__law_rows) (defBody s__law_rows) (defScope s__law_rows) [] [] (He.ga K "_law_rows") d__law_rows
  g__law_rows : mg "_law_rows" = some (.ref (He.ga K "_law_rows"))
  d__law_steps : FuncData
  F__law_steps : FunD K "_law_steps" "_law_steps" (defArgs s__law_steps) (defBody s__law_steps) (defScope s__law_steps) [] [] (He.ga K "_law_steps") d__law_steps
  g__law_steps : mg "_law_steps" = some (.ref (He.ga K "_law_steps"))
  d__law_fewer : FuncData
  F__law_fewer : FunD K "_law_fewer" "_law_fewer" (defArgs s__law_fewer) (defBody s__law_fewer) (defScope s__law_fewer) [] [] (He.ga K "_law_fewer") d__law_fewer
  g__law_fewer : mg "_law_fewer" = some (.ref (He.ga K "_law_fewer"))
  d__law_program : FuncData
  F__law_program : FunD K "_law_program" "_law_program" (defArgs s__law_program) (defBody s__law_program) (defScope s__law_program) [] [] (He.ga K "_law_program") d__law_program
  g__law_program : mg "_law_program" = some (.ref (He.ga K "_law_program"))
  d__law_small : FuncData
  F__law_small : FunD K "_law_small" "_law_small" (defArgs s__law_small) (defBody s__law_small) (defScope s__law_small) [] [] (He.ga K "_law_small") d__law_small
  g__law_small : mg "_law_small" = some (.ref (He.ga K "_law_small"))
  d__law_put_in : FuncData
  F__law_put_in : FunD K "_law_put_in" "_law_put_in" (defArgs s__law_put_in) (defBody s__law_put_in) (defScope s__law_put_in) [] [] (He.ga K "_law_put_in") d__law_put_in
  g__law_put_in : mg "_law_put_in" = some (.ref (He.ga K "_law_put_in"))
  d__law_all_put_in : FuncData
  F__law_all_put_in : FunD K "_law_all_put_in" "_law_all_put_in" (defArgs s__law_all_put_in) (defBody s__law_all_put_in) (defScope s__law_all_put_in) [] [] (He.ga K "_law_all_put_in") d__law_all_put_in
  g__law_all_put_in : mg "_law_all_put_in" = some (.ref (He.ga K "_law_all_put_in"))
  d__law_ways : FuncData
  F__law_ways : FunD K "_law_ways" "_law_ways" (defArgs s__law_ways) (defBody s__law_ways) (defScope s__law_ways) [] [] (He.ga K "_law_ways") d__law_ways
  g__law_ways : mg "_law_ways" = some (.ref (He.ga K "_law_ways"))
  d__law_flat : FuncData
  F__law_flat : FunD K "_law_flat" "_law_flat" (defArgs s__law_flat) (defBody s__law_flat) (defScope s__law_flat) [] [] (He.ga K "_law_flat") d__law_flat
  g__law_flat : mg "_law_flat" = some (.ref (He.ga K "_law_flat"))
  d__law_behind : FuncData
  F__law_behind : FunD K "_law_behind" "_law_behind" (defArgs s__law_behind) (defBody s__law_behind) (defScope s__law_behind) [] [] (He.ga K "_law_behind") d__law_behind
  g__law_behind : mg "_law_behind" = some (.ref (He.ga K "_law_behind"))
  d__law_end : FuncData
  F__law_end : FunD K "_law_end" "_law_end" (defArgs s__law_end) (defBody s__law_end) (defScope s__law_end) [] [] (He.ga K "_law_end") d__law_end
  g__law_end : mg "_law_end" = some (.ref (He.ga K "_law_end"))
  d__law_used : FuncData
  F__law_used : FunD K "_law_used" "_law_used" (defArgs s__law_used) (defBody s__law_used) (defScope s__law_used) [] [] (He.ga K "_law_used") d__law_used
  g__law_used : mg "_law_used" = some (.ref (He.ga K "_law_used"))
  d__law_ahead : FuncData
  F__law_ahead : FunD K "_law_ahead" "_law_ahead" (defArgs s__law_ahead) (defBody s__law_ahead) (defScope s__law_ahead) [] [] (He.ga K "_law_ahead") d__law_ahead
  g__law_ahead : mg "_law_ahead" = some (.ref (He.ga K "_law_ahead"))
  d__law_twin : FuncData
  F__law_twin : FunD K "_law_twin" "_law_twin" (defArgs s__law_twin) (defBody s__law_twin) (defScope s__law_twin) [] [] (He.ga K "_law_twin") d__law_twin
  g__law_twin : mg "_law_twin" = some (.ref (He.ga K "_law_twin"))
  d__law_nobody : FuncData
  F__law_nobody : FunD K "_law_nobody" "_law_nobody" (defArgs s__law_nobody) (defBody s__law_nobody) (defScope s__law_nobody) [] [] (He.ga K "_law_nobody") d__law_nobody
  g__law_nobody : mg "_law_nobody" = some (.ref (He.ga K "_law_nobody"))
  d__law_said : FuncData
  F__law_said : FunD K "_law_said" "_law_said" (defArgs s__law_said) (defBody s__law_said) (defScope s__law_said) [] [] (He.ga K "_law_said") d__law_said
  g__law_said : mg "_law_said" = some (.ref (He.ga K "_law_said"))
  d__law_right : FuncData
  F__law_right : FunD K "_law_right" "_law_right" (defArgs s__law_right) (defBody s__law_right) (defScope s__law_right) [] [] (He.ga K "_law_right") d__law_right
  g__law_right : mg "_law_right" = some (.ref (He.ga K "_law_right"))
  d__law_great : FuncData
  F__law_great : FunD K "_law_great" "_law_great" (defArgs s__law_great) (defBody s__law_great) (defScope s__law_great) [] [] (He.ga K "_law_great") d__law_great
  g__law_great : mg "_law_great" = some (.ref (He.ga K "_law_great"))
  d_law : FuncData
  F_law : FunD K "law" "law" (defArgs s_law) (defBody s_law) (defScope s_law) [] [] (He.ga K "law") d_law
  g_law : mg "law" = some (.ref (He.ga K "law"))
  d_Unsound_init : FuncData
  F_Unsound_init : FunD K "__init__" "Unsound.__init__" (defArgs s_Unsound_init) (defBody s_Unsound_init) (defScope s_Unsound_init) [] [] (He.ma K (He.ga K "Unsound") "__init__") d_Unsound_init
  g_BitError : mg "BitError" = some (.ref (He.ga K "BitError"))
  g_Unsound : mg "Unsound" = some (.ref (He.ga K "Unsound"))
  g_BadProgram : mg "BadProgram" = some (.ref (He.ga K "BadProgram"))
  g_BadPlace : mg "BadPlace" = some (.ref (He.ga K "BadPlace"))
  x_ : XTabOk xt K
  n_all : mg "all" = none
  n_bool : mg "bool" = none
  n_enumerate : mg "enumerate" = none
  n_int : mg "int" = none
  n_isinstance : mg "isinstance" = none
  n_len : mg "len" = none
  n_list : mg "list" = none
  n_max : mg "max" = none
  n_min : mg "min" = none
  n_range : mg "range" = none
  n_repr : mg "repr" = none
  n_set : mg "set" = none
  n_sorted : mg "sorted" = none
  n_str : mg "str" = none
  n_tuple : mg "tuple" = none
  c_SMALL : ∃ t, mg "SMALL" = some (.str "abcdefghijklmnopqrstuvwxyz" t)
  c_MOST_LETTERS : ∃ t, mg "MOST_LETTERS" = some (.int (8) t)
  c_MOST_WIDE : ∃ t, mg "MOST_WIDE" = some (.int (12) t)
  c_MOST_INPUTS : ∃ t, mg "MOST_INPUTS" = some (.int (4) t)
  c_MOST_ROWS : ∃ t, mg "MOST_ROWS" = some (.int (60) t)
  c_MOST_DEEP : ∃ t, mg "MOST_DEEP" = some (.int (6) t)
  c_MOST_ROUNDS : ∃ t, mg "MOST_ROUNDS" = some (.int (12) t)
  c_MOST_TURNED : ∃ t, mg "MOST_TURNED" = some (.int (3) t)
  c_MOST_MOVED : ∃ t, mg "MOST_MOVED" = some (.int (11) t)
  c_MOST_STEPS : ∃ t, mg "MOST_STEPS" = some (.int (2000) t)
  g_PAIRS : mg "PAIRS" = some (.ref (He.ga K "PAIRS"))
  c_PAIRS : ∀ J : Jp, RV K J (.tup [.str "add", .str "less", .str "and", .str "or", .str "unlike", .str "same", .str "below"]) (.ref (He.ga K "PAIRS"))
  g_MOVES : mg "MOVES" = some (.ref (He.ga K "MOVES"))
  c_MOVES : ∀ J : Jp, RV K J (.tup [.str "up", .str "down"]) (.ref (He.ga K "MOVES"))
theorem txt_of {w : World} {K : PySem.W.Frag} {h : Heap} {mg : Str → Option Value} (X : K.In h) (G : h.Ns mainGlobals mg) (cN : SaysN fa fn ts dtab xts w K) : Nonempty (Txt w K mg) := by
  have c0 := cN.m
  have c := c0.d
  obtain ⟨d0, F0⟩ := c.def_ 0 rfl
  obtain ⟨d1, F1⟩ := c.def_ 1 rfl
  obtain ⟨d2, F2⟩ := c.def_ 2 rfl
  obtain ⟨d3, F3⟩ := c.def_ 3 rfl
  obtain ⟨d4, F4⟩ := c.def_ 4 rfl
  obtain ⟨d5, F5⟩ := c.def_ 5 rfl
  obtain ⟨d6, F6⟩ := c.def_ 6 rfl
  obtain ⟨d7, F7⟩ := c.def_ 7 rfl
  obtain ⟨d8, F8⟩ := c.def_ 8 rfl
  obtain ⟨d9, F9⟩ := c.def_ 9 rfl
  obtain ⟨d10, F10⟩ := c.def_ 10 rfl
  obtain ⟨d11, F11⟩ := c.def_ 11 rfl
  obtain ⟨d12, F12⟩ := c.def_ 12 rfl
  obtain ⟨d13, F13⟩ := c.def_ 13 rfl
  obtain ⟨d14, F14⟩ := c.def_ 14 rfl
  obtain ⟨d15, F15⟩ := c.def_ 15 rfl
  obtain ⟨d16, F16⟩ := c.def_ 16 rfl
  obtain ⟨d17, F17⟩ := c.def_ 17 rfl
  obtain ⟨d18, F18⟩ := c.def_ 18 rfl
  obtain ⟨d19, F19⟩ := c.def_ 19 rfl
  obtain ⟨d20, F20⟩ := c.def_ 20 rfl
  obtain ⟨d21, F21⟩ := c.def_ 21 rfl
  obtain ⟨d22, F22⟩ := c.def_ 22 rfl
  obtain ⟨d23, F23⟩ := c.def_ 23 rfl
  obtain ⟨d24, F24⟩ := c.def_ 24 rfl
  obtain ⟨d25, F25⟩ := c.def_ 25 rfl
  obtain ⟨d26, F26⟩ := c.def_ 26 rfl
  obtain ⟨d27, F27⟩ := c.def_ 27 rfl
  obtain ⟨d28, F28⟩ := c.def_ 28 rfl
  obtain ⟨d29, F29⟩ := c.def_ 29 rfl
  obtain ⟨d30, F30⟩ := c.def_ 30 rfl
  obtain ⟨d31, F31⟩ := c.def_ 31 rfl
  obtain ⟨d32, F32⟩ := c.def_ 32 rfl
  obtain ⟨d33, F33⟩ := c.def_ 33 rfl
  obtain ⟨d34, F34⟩ := c.def_ 34 rfl
  obtain ⟨d35, F35⟩ := c.def_ 35 rfl
  obtain ⟨d36, F36⟩ := c.def_ 36 rfl
  obtain ⟨d37, F37⟩ := c.def_ 37 rfl
  obtain ⟨d38, F38⟩ := c.def_ 38 rfl
  obtain ⟨d39, F39⟩ := c.def_ 39 rfl
  obtain ⟨d40, F40⟩ := c.def_ 40 rfl
  obtain ⟨d41, F41⟩ := c.def_ 41 rfl
  obtain ⟨d42, F42⟩ := c.def_ 42 rfl
  obtain ⟨d43, F43⟩ := c.def_ 43 rfl
  obtain ⟨d44, F44⟩ := c.def_ 44 rfl
  obtain ⟨d45, F45⟩ := c.def_ 45 rfl
  obtain ⟨d46, F46⟩ := c.def_ 46 rfl
  exact ⟨{
    d_Unsound_init := d46
    F_Unsound_init := F46
    g_BitError := He.glo_ok X G (c.fact 73 (f := .glo "BitError") rfl)
    g_Unsound := He.glo_ok X G (c.fact 74 (f := .glo "Unsound") rfl)
    g_BadProgram := He.glo_ok X G (c.fact 75 (f := .glo "BadProgram") rfl)
    g_BadPlace := He.glo_ok X G (c.fact 76 (f := .glo "BadPlace") rfl)
    x_ := cN.xt 0 rfl
    d_is_whole := d0
    F_is_whole := F0
    g_is_whole := He.glo_ok X G (c.fact 0 (f := .glo "is_whole") rfl)
    d_is_name := d1
    F_is_name := F1
    g_is_name := He.glo_ok X G (c.fact 1 (f := .glo "is_name") rfl)
    d_full := d2
    F_full := F2
    g_full := He.glo_ok X G (c.fact 2 (f := .glo "full") rfl)
    d_is_expr := d3
    F_is_expr := F3
    g_is_expr := He.glo_ok X G (c.fact 3 (f := .glo "is_expr") rfl)
    d_has_form := d4
    F_has_form := F4
    g_has_form := He.glo_ok X G (c.fact 4 (f := .glo "has_form") rfl)
    d_inner_rows := d5
    F_inner_rows := F5
    g_inner_rows := He.glo_ok X G (c.fact 5 (f := .glo "inner_rows") rfl)
    d_are_rows := d6
    F_are_rows := F6
    g_are_rows := He.glo_ok X G (c.fact 6 (f := .glo "are_rows") rfl)
    d_is_program := d7
    F_is_program := F7
    g_is_program := He.glo_ok X G (c.fact 7 (f := .glo "is_program") rfl)
    d_rows_within := d8
    F_rows_within := F8
    g_rows_within := He.glo_ok X G (c.fact 8 (f := .glo "rows_within") rfl)
    d_uses := d9
    F_uses := F9
    g_uses := He.glo_ok X G (c.fact 9 (f := .glo "uses") rfl)
    d_names_behind := d10
    F_names_behind := F10
    g_names_behind := He.glo_ok X G (c.fact 10 (f := .glo "names_behind") rfl)
    d_names_at_end := d11
    F_names_at_end := F11
    g_names_at_end := He.glo_ok X G (c.fact 11 (f := .glo "names_at_end") rfl)
    d_first_lacking := d12
    F_first_lacking := F12
    g_first_lacking := He.glo_ok X G (c.fact 12 (f := .glo "first_lacking") rfl)
    d_steps_of := d13
    F_steps_of := F13
    g_steps_of := He.glo_ok X G (c.fact 13 (f := .glo "steps_of") rfl)
    d_first_wrong := d14
    F_first_wrong := F14
    g_first_wrong := He.glo_ok X G (c.fact 14 (f := .glo "first_wrong") rfl)
    d_need_program := d15
    F_need_program := F15
    g_need_program := He.glo_ok X G (c.fact 15 (f := .glo "need_program") rfl)
    d_places_of := d16
    F_places_of := F16
    g_places_of := He.glo_ok X G (c.fact 16 (f := .glo "places_of") rfl)
    d_set_places := d17
    F_set_places := F17
    g_set_places := He.glo_ok X G (c.fact 17 (f := .glo "set_places") rfl)
    d_need_place := d18
    F_need_place := F18
    g_need_place := He.glo_ok X G (c.fact 18 (f := .glo "need_place") rfl)
    d_names_ahead := d19
    F_names_ahead := F19
    g_names_ahead := He.glo_ok X G (c.fact 19 (f := .glo "names_ahead") rfl)
    d_names_at := d20
    F_names_at := F20
    g_names_at := He.glo_ok X G (c.fact 20 (f := .glo "names_at") rfl)
    d__law_begin := d21
    F__law_begin := F21
    g__law_begin := He.glo_ok X G (c.fact 21 (f := .glo "_law_begin") rfl)
    d__law_mixed := d22
    F__law_mixed := F22
    g__law_mixed := He.glo_ok X G (c.fact 22 (f := .glo "_law_mixed") rfl)
    d__law_next := d23
    F__law_next := F23
    g__law_next := He.glo_ok X G (c.fact 23 (f := .glo "_law_next") rfl)
    d__law_words := d24
    F__law_words := F24
    g__law_words := He.glo_ok X G (c.fact 24 (f := .glo "_law_words") rfl)
    d__law_number := d25
    F__law_number := F25
    g__law_number := He.glo_ok X G (c.fact 25 (f := .glo "_law_number") rfl)
    d__law_expr := d26
    F__law_expr := F26
    g__law_expr := He.glo_ok X G (c.fact 26 (f := .glo "_law_expr") rfl)
    d__law_rows := d27
    F__law_rows := F27
    g__law_rows := He.glo_ok X G (c.fact 27 (f := .glo "_law_rows") rfl)
    d__law_steps := d28
    F__law_steps := F28
    g__law_steps := He.glo_ok X G (c.fact 28 (f := .glo "_law_steps") rfl)
    d__law_fewer := d29
    F__law_fewer := F29
    g__law_fewer := He.glo_ok X G (c.fact 29 (f := .glo "_law_fewer") rfl)
    d__law_program := d30
    F__law_program := F30
    g__law_program := He.glo_ok X G (c.fact 30 (f := .glo "_law_program") rfl)
    d__law_small := d31
    F__law_small := F31
    g__law_small := He.glo_ok X G (c.fact 31 (f := .glo "_law_small") rfl)
    d__law_put_in := d32
    F__law_put_in := F32
    g__law_put_in := He.glo_ok X G (c.fact 32 (f := .glo "_law_put_in") rfl)
    d__law_all_put_in := d33
    F__law_all_put_in := F33
    g__law_all_put_in := He.glo_ok X G (c.fact 33 (f := .glo "_law_all_put_in") rfl)
    d__law_ways := d34
    F__law_ways := F34
    g__law_ways := He.glo_ok X G (c.fact 34 (f := .glo "_law_ways") rfl)
    d__law_flat := d35
    F__law_flat := F35
    g__law_flat := He.glo_ok X G (c.fact 35 (f := .glo "_law_flat") rfl)
    d__law_behind := d36
    F__law_behind := F36
    g__law_behind := He.glo_ok X G (c.fact 36 (f := .glo "_law_behind") rfl)
    d__law_end := d37
    F__law_end := F37
    g__law_end := He.glo_ok X G (c.fact 37 (f := .glo "_law_end") rfl)
    d__law_used := d38
    F__law_used := F38
    g__law_used := He.glo_ok X G (c.fact 38 (f := .glo "_law_used") rfl)
    d__law_ahead := d39
    F__law_ahead := F39
    g__law_ahead := He.glo_ok X G (c.fact 39 (f := .glo "_law_ahead") rfl)
    d__law_twin := d40
    F__law_twin := F40
    g__law_twin := He.glo_ok X G (c.fact 40 (f := .glo "_law_twin") rfl)
    d__law_nobody := d41
    F__law_nobody := F41
    g__law_nobody := He.glo_ok X G (c.fact 41 (f := .glo "_law_nobody") rfl)
    d__law_said := d42
    F__law_said := F42
    g__law_said := He.glo_ok X G (c.fact 42 (f := .glo "_law_said") rfl)
    d__law_right := d43
    F__law_right := F43
    g__law_right := He.glo_ok X G (c.fact 43 (f := .glo "_law_right") rfl)
    d__law_great := d44
    F__law_great := F44
    g__law_great := He.glo_ok X G (c.fact 44 (f := .glo "_law_great") rfl)
    d_law := d45
    F_law := F45
    g_law := He.glo_ok X G (c.fact 45 (f := .glo "law") rfl)
    n_all := He.free_ok X G (c.fact 46 (f := .free "all") rfl)
    n_bool := He.free_ok X G (c.fact 47 (f := .free "bool") rfl)
    n_enumerate := He.free_ok X G (c.fact 48 (f := .free "enumerate") rfl)
    n_int := He.free_ok X G (c.fact 49 (f := .free "int") rfl)
    n_isinstance := He.free_ok X G (c.fact 50 (f := .free "isinstance") rfl)
    n_len := He.free_ok X G (c.fact 51 (f := .free "len") rfl)
    n_list := He.free_ok X G (c.fact 52 (f := .free "list") rfl)
    n_max := He.free_ok X G (c.fact 53 (f := .free "max") rfl)
    n_min := He.free_ok X G (c.fact 54 (f := .free "min") rfl)
    n_range := He.free_ok X G (c.fact 55 (f := .free "range") rfl)
    n_repr := He.free_ok X G (c.fact 56 (f := .free "repr") rfl)
    n_set := He.free_ok X G (c.fact 57 (f := .free "set") rfl)
    n_sorted := He.free_ok X G (c.fact 58 (f := .free "sorted") rfl)
    n_str := He.free_ok X G (c.fact 59 (f := .free "str") rfl)
    n_tuple := He.free_ok X G (c.fact 60 (f := .free "tuple") rfl)
    c_SMALL := He.str_ok X G (c.fact 61 (f := .str "SMALL" "abcdefghijklmnopqrstuvwxyz") rfl)
    c_MOST_LETTERS := He.int_ok X G (c.fact 62 (f := .int "MOST_LETTERS" (8)) rfl)
    c_MOST_WIDE := He.int_ok X G (c.fact 63 (f := .int "MOST_WIDE" (12)) rfl)
    c_MOST_INPUTS := He.int_ok X G (c.fact 64 (f := .int "MOST_INPUTS" (4)) rfl)
    c_MOST_ROWS := He.int_ok X G (c.fact 65 (f := .int "MOST_ROWS" (60)) rfl)
    c_MOST_DEEP := He.int_ok X G (c.fact 66 (f := .int "MOST_DEEP" (6)) rfl)
    c_MOST_ROUNDS := He.int_ok X G (c.fact 67 (f := .int "MOST_ROUNDS" (12)) rfl)
    c_MOST_TURNED := He.int_ok X G (c.fact 68 (f := .int "MOST_TURNED" (3)) rfl)
    c_MOST_MOVED := He.int_ok X G (c.fact 69 (f := .int "MOST_MOVED" (11)) rfl)
    c_MOST_STEPS := He.int_ok X G (c.fact 70 (f := .int "MOST_STEPS" (2000)) rfl)
    g_PAIRS := He.glo_ok X G (c.fact 71 (f := .glo "PAIRS") rfl)
    c_PAIRS := fun J => .tup (He.tupB_ok (c0.tab 0 rfl) J.j) (.cons (.str _) (.cons (.str _) (.cons (.str _) (.cons (.str _) (.cons (.str _) (.cons (.str _) (.cons (.str _) .nil)))))))
    g_MOVES := He.glo_ok X G (c.fact 72 (f := .glo "MOVES") rfl)
    c_MOVES := fun J => .tup (He.tupB_ok (c0.tab 1 rfl) J.j) (.cons (.str _) (.cons (.str _) .nil)) }⟩
section
variable {P : Program} {w : World} {K : PySem.W.Frag} {mg : Str → Option Value} {base : Heap}
theorem b_is_whole (T : Txt w K mg) : Binds K T.d_is_whole ["thing", "least", "most"] [] := T.F_is_whole.bindsN fun _ _ _ _ _ _ us hl => match us, hl with | [_, _, _], _ => rfl
theorem b_is_name (T : Txt w K mg) : Binds K T.d_is_name ["thing"] [] := T.F_is_name.bindsN fun _ _ _ _ _ _ us hl => match us, hl with | [_], _ => rfl
theorem b_full (T : Txt w K mg) : Binds K T.d_full ["wide"] [] := T.F_full.bindsN fun _ _ _ _ _ _ us hl => match us, hl with | [_], _ => rfl
theorem b_is_expr (T : Txt w K mg) : Binds K T.d_is_expr ["thing", "wide"] [] := T.F_is_expr.bindsN fun _ _ _ _ _ _ us hl => match us, hl with | [_, _], _ => rfl
theorem b_has_form (T : Txt w K mg) : Binds K T.d_has_form ["thing", "wide"] [] := T.F_has_form.bindsN fun _ _ _ _ _ _ us hl => match us, hl with | [_, _], _ => rfl
theorem b_inner_rows (T : Txt w K mg) : Binds K T.d_inner_rows ["row"] [] := T.F_inner_rows.bindsN fun _ _ _ _ _ _ us hl => match us, hl with | [_], _ => rfl
theorem b_are_rows (T : Txt w K mg) : Binds K T.d_are_rows ["thing", "wide"] [] := T.F_are_rows.bindsN fun _ _ _ _ _ _ us hl => match us, hl with | [_, _], _ => rfl
theorem b_is_program (T : Txt w K mg) : Binds K T.d_is_program ["thing"] [] := T.F_is_program.bindsN fun _ _ _ _ _ _ us hl => match us, hl with | [_], _ => rfl
theorem b_rows_within (T : Txt w K mg) : Binds K T.d_rows_within ["rows"] [] := T.F_rows_within.bindsN fun _ _ _ _ _ _ us hl => match us, hl with | [_], _ => rfl
theorem b_uses (T : Txt w K mg) : Binds K T.d_uses ["row"] [] := T.F_uses.bindsN fun _ _ _ _ _ _ us hl => match us, hl with | [_], _ => rfl
theorem b_names_behind (T : Txt w K mg) : Binds K T.d_names_behind ["row", "known"] [] := T.F_names_behind.bindsN fun _ _ _ _ _ _ us hl => match us, hl with | [_, _], _ => rfl
theorem b_names_at_end (T : Txt w K mg) : Binds K T.d_names_at_end ["rows", "known"] [] := T.F_names_at_end.bindsN fun _ _ _ _ _ _ us hl => match us, hl with | [_, _], _ => rfl
theorem b_first_lacking (T : Txt w K mg) : Binds K T.d_first_lacking ["rows", "known", "place"] [] := T.F_first_lacking.bindsN fun _ _ _ _ _ _ us hl => match us, hl with | [_, _, _], _ => rfl
theorem b_steps_of (T : Txt w K mg) : Binds K T.d_steps_of ["rows"] [] := T.F_steps_of.bindsN fun _ _ _ _ _ _ us hl => match us, hl with | [_], _ => rfl
theorem b_first_wrong (T : Txt w K mg) : Binds K T.d_first_wrong ["program"] [] := T.F_first_wrong.bindsN fun _ _ _ _ _ _ us hl => match us, hl with | [_], _ => rfl
theorem b_need_program (T : Txt w K mg) : Binds K T.d_need_program ["thing"] [] := T.F_need_program.bindsN fun _ _ _ _ _ _ us hl => match us, hl with | [_], _ => rfl
theorem b_places_of (T : Txt w K mg) : Binds K T.d_places_of ["program"] [] := T.F_places_of.bindsN fun _ _ _ _ _ _ us hl => match us, hl with | [_], _ => rfl
theorem b_set_places (T : Txt w K mg) : Binds K T.d_set_places ["program"] [] := T.F_set_places.bindsN fun _ _ _ _ _ _ us hl => match us, hl with | [_], _ => rfl
theorem b_need_place (T : Txt w K mg) : Binds K T.d_need_place ["program", "place"] [] := T.F_need_place.bindsN fun _ _ _ _ _ _ us hl => match us, hl with | [_, _], _ => rfl
theorem b_names_ahead (T : Txt w K mg) : Binds K T.d_names_ahead ["rows", "known", "place"] [] := T.F_names_ahead.bindsN fun _ _ _ _ _ _ us hl => match us, hl with | [_, _, _], _ => rfl
theorem b_names_at (T : Txt w K mg) : Binds K T.d_names_at ["program", "place"] [] := T.F_names_at.bindsN fun _ _ _ _ _ _ us hl => match us, hl with | [_, _], _ => rfl
theorem b__law_begin (T : Txt w K mg) : Binds K T.d__law_begin ["script"] [] := T.F__law_begin.bindsN fun _ _ _ _ _ _ us hl => match us, hl with | [_], _ => rfl
theorem b__law_mixed (T : Txt w K mg) : Binds K T.d__law_mixed ["cell", "k"] [] := T.F__law_mixed.bindsN fun _ _ _ _ _ _ us hl => match us, hl with | [_, _], _ => rfl
theorem b__law_next (T : Txt w K mg) : Binds K T.d__law_next ["draw", "many"] [] := T.F__law_next.bindsN fun _ _ _ _ _ _ us hl => match us, hl with | [_, _], _ => rfl
theorem b__law_words (T : Txt w K mg) : Binds K T.d__law_words ["draw", "many", "most"] [] := T.F__law_words.bindsN fun _ _ _ _ _ _ us hl => match us, hl with | [_, _, _], _ => rfl
theorem b__law_number (T : Txt w K mg) : Binds K T.d__law_number ["draw", "wide"] [] := T.F__law_number.bindsN fun _ _ _ _ _ _ us hl => match us, hl with | [_, _], _ => rfl
theorem b__law_expr (T : Txt w K mg) : Binds K T.d__law_expr ["draw", "wide", "known"] [] := T.F__law_expr.bindsN fun _ _ _ _ _ _ us hl => match us, hl with | [_, _, _], _ => rfl
theorem b__law_rows (T : Txt w K mg) : Binds K T.d__law_rows ["draw", "made", "known", "deep"] [] := T.F__law_rows.bindsN fun _ _ _ _ _ _ us hl => match us, hl with | [_, _, _, _], _ => rfl
theorem b__law_steps (T : Txt w K mg) : Binds K T.d__law_steps ["rows"] [] := T.F__law_steps.bindsN fun _ _ _ _ _ _ us hl => match us, hl with | [_], _ => rfl
theorem b__law_fewer (T : Txt w K mg) : Binds K T.d__law_fewer ["rows"] [] := T.F__law_fewer.bindsN fun _ _ _ _ _ _ us hl => match us, hl with | [_], _ => rfl
theorem b__law_program (T : Txt w K mg) : Binds K T.d__law_program ["draw", "wide", "inputs", "most"] [] := T.F__law_program.bindsN fun _ _ _ _ _ _ us hl => match us, hl with | [_, _, _, _], _ => rfl
theorem b__law_ways (T : Txt w K mg) : Binds K T.d__law_ways ["row"] [] := T.F__law_ways.bindsN fun _ _ _ _ _ _ us hl => match us, hl with | [_], _ => rfl
theorem b__law_flat (T : Txt w K mg) : Binds K T.d__law_flat ["rows"] [] := T.F__law_flat.bindsN fun _ _ _ _ _ _ us hl => match us, hl with | [_], _ => rfl
theorem b__law_behind (T : Txt w K mg) : Binds K T.d__law_behind ["row", "there"] [] := T.F__law_behind.bindsN fun _ _ _ _ _ _ us hl => match us, hl with | [_, _], _ => rfl
theorem b__law_end (T : Txt w K mg) : Binds K T.d__law_end ["rows", "there"] [] := T.F__law_end.bindsN fun _ _ _ _ _ _ us hl => match us, hl with | [_, _], _ => rfl
theorem b__law_used (T : Txt w K mg) : Binds K T.d__law_used ["row"] [] := T.F__law_used.bindsN fun _ _ _ _ _ _ us hl => match us, hl with | [_], _ => rfl
theorem b__law_ahead (T : Txt w K mg) : Binds K T.d__law_ahead ["rows", "there", "place"] [] := T.F__law_ahead.bindsN fun _ _ _ _ _ _ us hl => match us, hl with | [_, _, _], _ => rfl
theorem b__law_twin (T : Txt w K mg) : Binds K T.d__law_twin ["thing"] [] := T.F__law_twin.bindsN fun _ _ _ _ _ _ us hl => match us, hl with | [_], _ => rfl
theorem b__law_nobody (T : Txt w K mg) : Binds K T.d__law_nobody ["program"] [] := T.F__law_nobody.bindsN fun _ _ _ _ _ _ us hl => match us, hl with | [_], _ => rfl
theorem b__law_said (T : Txt w K mg) : Binds K T.d__law_said ["deed", "program", "place"] [] := T.F__law_said.bindsN fun _ _ _ _ _ _ us hl => match us, hl with | [_, _, _], _ => rfl
theorem b__law_right (T : Txt w K mg) : Binds K T.d__law_right ["draw", "program"] [] := T.F__law_right.bindsN fun _ _ _ _ _ _ us hl => match us, hl with | [_, _], _ => rfl
theorem b__law_great (T : Txt w K mg) : Binds K T.d__law_great ["draw"] [] := T.F__law_great.bindsN fun _ _ _ _ _ _ us hl => match us, hl with | [_], _ => rfl
theorem b_Unsound_init (T : Txt w K mg) : Binds K T.d_Unsound_init ["self", "place", "what"] [] := T.F_Unsound_init.bindsN fun _ _ _ _ _ _ us hl => match us, hl with | [_, _, _], _ => rfl
theorem xi_Unsound (T : Txt w K mg) : XiOk K (He.ga K "Unsound") "place" "what" := T.x_.f ("Unsound", "place", "what") (by decide)
theorem xc_BadProgram (T : Txt w K mg) : XcOk K (He.ga K "BadProgram") := T.x_.c "BadProgram" (by decide)
theorem xs_BadProgram (T : Txt w K mg) : PySem.W.excIn K (He.ga K "BadProgram") He.veBase "ValueError.__new__" = true := T.x_.s "BadProgram" (by decide) (by decide)
theorem xc_BadPlace (T : Txt w K mg) : XcOk K (He.ga K "BadPlace") := T.x_.c "BadPlace" (by decide)
theorem xs_BadPlace (T : Txt w K mg) : PySem.W.excIn K (He.ga K "BadPlace") He.veBase "ValueError.__new__" = true := T.x_.s "BadPlace" (by decide) (by decide)
end
section
variable {P : Program} {w : World} {K : PySem.W.Frag} {mg : Str → Option Value} {base : Heap}
def spSteps (d : Nat) : DSp := fun rs M Q _ => ∃ (w : Nat) (ns : List Str) (xs : List Rw), rs = [.tup (Rw.rl xs)] ∧ 1 ≤ d ∧ Rw.Vdl w ns d xs ∧ Q (.int (Rw.stl xs : Nat)) M
theorem spSteps_void : ∀ rs M Q xw, ¬ spSteps 0 rs M Q xw := fun _ _ _ _ ⟨_, _, _, _, h, _⟩ => by omega
theorem vdl_mem {w : Nat} {ns : List Str} {d : Nat} : ∀ {xs : List Rw} {x : Rw}, Rw.Vdl w ns d xs → x ∈ xs → Rw.Vd w ns d x
  | y :: ys, x, h, hx => by
    rw [Rw.Vdl] at h
    rcases List.mem_cons.mp hx with rfl | hx
    · exact h.1
    · exact vdl_mem h.2 hx
theorem stl_take {xs : List Rw} {i : Nat} {x : Rw} (h : xs[i]? = some x) : Rw.stl (xs.take (i + 1)) = Rw.stl (xs.take i) + x.st := by
  rw [List.take_succ, h, stl_app]
  show _ + Rw.stl [x] = _
  rw [Rw.stl, Rw.stl]; rfl
theorem rowW : decide (("set" : Str) = "if") = false ∧ decide (("set" : Str) = "round") = false ∧ decide (("tell" : Str) = "if") = false ∧ decide (("tell" : Str) = "round") = false ∧ decide (("if" : Str) = "round") = false ∧ decide (("round" : Str) = "if") = false := by decide +kernel
theorem ok__law_steps (T : Txt w K mg) : ∀ d : Nat, DFn P w K mg base (d + 1) (He.ga K "_law_steps") T.d__law_steps ["rows"] (spSteps d)
 | 0 => dfn_void T.F__law_steps sc__law_steps spSteps_void
 | d + 1 => by
  refine dfn_of T.F__law_steps sc__law_steps (fun cdv A outer s H E hr tk hp => ⟨_, (dss_cons (ds_set 1 sc__law_steps.nd de_int)
    (dss_cons (ds_for hp rfl (di_tup (de_var 0)) (dg_name 2 sc__law_steps.nd) (dss_cons (ds_set 1 sc__law_steps.nd (de_op op_addU sim_add (de_var 1) de_int))
    (dss_cons (ds_if (dt_cmp (op_eqU hr.hu) sim_eq (de_ix (de_var 2) de_int) de_str) (dss_cons (ds_set 1 sc__law_steps.nd (de_op op_addU sim_add (de_var 1) (de_callB (call_mx rfl) sc_mx T.n_max (da_cons (de_call (ok__law_steps T d) (hr.mono (by omega)) T.g__law_steps T.F__law_steps.kp (b__law_steps T) tk (da_cons (de_ix (de_var 2) de_int) da_nil)) (da_cons (de_call (ok__law_steps T d) (hr.mono (by omega)) T.g__law_steps T.F__law_steps.kp (b__law_steps T) tk (da_cons (de_ix (de_var 2) de_int) da_nil)) da_nil)))))
    dss_nil) dss_nil)
    (dss_cons (ds_if (dt_cmp (op_eqU hr.hu) sim_eq (de_ix (de_var 2) de_int) de_str) (dss_cons (ds_set 1 sc__law_steps.nd (de_op op_addU sim_add (de_var 1) (de_op op_mulU sim_mul (de_ix (de_var 2) de_int) (de_call (ok__law_steps T d) (hr.mono (by omega)) T.g__law_steps T.F__law_steps.kp (b__law_steps T) tk (da_cons (de_ix (de_var 2) de_int) da_nil)))))
    dss_nil) dss_nil)
    dss_nil))))
    (dss_cons (ds_ret (de_var 1))
    dss_nil))), fun rs M Q xw h hl => ?_⟩)
  obtain ⟨w, ns, xs, rfl, d1, hv, hQ⟩ := h
  refine ⟨fun i g' M' => ∃ (s2 : Option R) (v : Int), g' = [some (.tup (Rw.rl xs)), some (.int v), s2] ∧ v = (Rw.stl (xs.take i) : Nat) ∧ M' = M, ⟨_, _, rfl, rfl, rfl⟩, ?_, ?_⟩
  · rintro i r g' M' hr ⟨s2, v, rfl, rfl, rfl⟩
    rw [rl_map, List.getElem?_map] at hr
    obtain ⟨x, hx, rfl⟩ := Option.map_eq_some_iff.mp hr
    have vx := vdl_mem hv (List.mem_of_getElem? hx)
    have es := stl_take hx
    cases x with
    | set a e =>
      rw [Rw.st] at es
      rw [Rw.r]
      refine ⟨_, rfl, noT rowW.1, fun _ => ⟨_, rfl, noT rowW.2.1, fun _ => ⟨_, _, rfl, by rw [es]; omega, rfl⟩⟩⟩
    | tell a =>
      rw [Rw.st] at es
      rw [Rw.r]
      refine ⟨_, rfl, noT rowW.2.2.1, fun _ => ⟨_, rfl, noT rowW.2.2.2.1, fun _ => ⟨_, _, rfl, by rw [es]; omega, rfl⟩⟩⟩
    | iff a p q =>
      rw [Rw.Vd] at vx
      rw [Rw.st] at es
      rw [Rw.r]
      refine ⟨_, rfl, fun _ => ?_, noF (decide_eq_true rfl)⟩
      refine ⟨_, rfl, w, ns, p, rfl, by omega, vx.2.2.1, _, rfl, w, ns, q, rfl, by omega, vx.2.2.2, ?_⟩
      refine ⟨_, rfl, noT rowW.2.2.2.2.1, fun _ => ⟨_, _, rfl, ?_, rfl⟩⟩
      rw [es]
      omega
    | rnd n p =>
      rw [Rw.Vd] at vx
      rw [Rw.st] at es
      rw [Rw.r]
      refine ⟨_, rfl, noT rowW.2.2.2.2.2, fun _ => ⟨_, rfl, fun _ => ?_, noF (decide_eq_true rfl)⟩⟩
      refine ⟨_, rfl, _, rfl, w, ns, p, rfl, by omega, vx.2.2, .inl (.inl ⟨by omega, by omega⟩), _, _, rfl, ?_, rfl⟩
      rw [es, Int.natCast_add, Int.natCast_add, Int.natCast_mul]
      omega
  · rintro g' M' ⟨s2, v, rfl, rfl, rfl⟩
    rw [rl_map, List.length_map, List.take_length]
    exact ⟨_, Sub.rfl', hQ⟩
end
section
variable {P : Program} {w : World} {K : PySem.W.Frag} {mg : Str → Option Value} {base : Heap}
/-- a whole number between two bounds, and no truth -/
def isWholeR (r : R) (a b : Int) : Bool := match r with
  | .int i => decide (a ≤ i) && decide (i ≤ b)
  | _ => false
/-- a thing whose kind is told; tuples known to have no dict aside -/
def R.kindU : R → Option Ty
  | .pt _ => none
  | r => r.kind
def KindOk (M : MH) (r : R) : Prop := (∃ t, r.kindU = some t) ∨ ∃ a, r = .o a ∧ ((∃ rs, M a = some (.lst rs)) ∨ ∃ kvs, M a = some (.dK kvs))
def spIsWhole : DSp := fun rs M Q _ => ∃ (r : R) (a b : Int), rs = [r, .int a, .int b] ∧ KindOk M r ∧ Q (.bl (isWholeR r a b)) M
theorem ok_is_whole (T : Txt w K mg) : DFn P w K mg base 1 (He.ga K "is_whole") T.d_is_whole ["thing", "least", "most"] (spIsWhole) := by
  refine dfn_of T.F_is_whole sc_is_whole (fun cdv A outer s H E hr tk hp => ⟨_, (dss_cons (ds_ret (de_and (de_callB call_isi sc_isi T.n_isinstance (da_cons (de_var 0) (da_cons (de_ty .int T.n_int) da_nil))) (de_and (de_not (de_callB call_isi sc_isi T.n_isinstance (da_cons (de_var 0) (da_cons (de_ty .bl T.n_bool) da_nil)))) (de_one (de_chain op_le op_le sim_B0 sim_B0 (de_var 1) (de_var 0) (de_var 2))))))
    dss_nil), fun rs M Q xw h hl => ?_⟩)
  obtain ⟨r, a, b, rfl, n1, hQ⟩ := h
  have nn : Ty.int ≠ .non := fun z => by cases z
  have nb : Ty.bl ≠ .non := fun z => by cases z
  cases r with
  | int i =>
    refine ⟨⟨fun _ => ?_, fun z => by cases z⟩, nn⟩
    refine ⟨⟨fun _ => ?_, fun z => by cases z⟩, nb⟩
    refine ⟨fun z => ⟨M, Sub.rfl', ?_⟩, fun z => ⟨M, Sub.rfl', ?_⟩⟩
    · have e : isWholeR (.int i) a b = decide (i ≤ b) := by
        unfold isWholeR; dsimp only; rw [z, Bool.true_and]
      show Q (.bl (decide (i ≤ b))) M
      rw [← e]; exact hQ
    · have e : isWholeR (.int i) a b = false := by
        unfold isWholeR; dsimp only; rw [z, Bool.false_and]
      rw [← e]; exact hQ
  | bl i =>
    refine ⟨⟨fun _ => ?_, fun z => by cases z⟩, nn⟩
    exact ⟨⟨fun z => (by cases z), fun _ => ⟨M, Sub.rfl', hQ⟩⟩, nb⟩
  | o x =>
    rcases n1 with ⟨t, e⟩ | ⟨x', e, ⟨rs, e2⟩ | ⟨kvs, e2⟩⟩
    · cases e
    · cases e; exact .inl ⟨rs, e2, ⟨fun z => (by cases z), fun _ => ⟨M, Sub.rfl', hQ⟩⟩, nn⟩
    · cases e; exact .inr ⟨kvs, e2, ⟨fun z => (by cases z), fun _ => ⟨M, Sub.rfl', hQ⟩⟩, nn⟩
  | ty t =>
    rcases n1 with ⟨t, e⟩ | ⟨x', e, _⟩ <;> cases e
  | pt t =>
    rcases n1 with ⟨t, e⟩ | ⟨x', e, _⟩ <;> cases e
  | ex c ns qs =>
    rcases n1 with ⟨t, e⟩ | ⟨x', e, _⟩ <;> cases e
  | _ => exact ⟨⟨fun z => (by cases z), fun _ => ⟨M, Sub.rfl', hQ⟩⟩, nn⟩
end
section
variable {P : Program} {w : World} {K : PySem.W.Frag} {mg : Str → Option Value} {base : Heap}
/-- what is handed in: numbers, truths, texts, None, tuples and lists of such, not too deep -/
inductive Dt : Nat → R → Prop
  | non (k : Nat) : Dt k .non
  | bl (k : Nat) (b : Bool) : Dt k (.bl b)
  | int (k : Nat) (i : Int) : Dt k (.int i)
  | str (k : Nat) {x : Str} : x.length ≤ 1000 → PyData.strOk x = true → Dt k (.str x)
  | tup {k : Nat} {rs : List R} : rs.length ≤ 1000 → (∀ r ∈ rs, Dt k r) → Dt (k + 1) (.tup rs)
  | lst {k : Nat} {rs : List R} : rs.length ≤ 1000 → (∀ r ∈ rs, Dt k r) → Dt (k + 1) (.lst rs)
theorem Dt.kind {k : Nat} {r : R} {M : MH} (h : Dt k r) : KindOk M r := by
  cases h <;> exact .inl ⟨_, rfl⟩
theorem Dt.mono {k j : Nat} {r : R} (h : Dt k r) (e : k ≤ j) : Dt j r := by
  induction h generalizing j with
  | non k => exact .non j
  | bl k b => exact .bl j b
  | int k i => exact .int j i
  | str k h1 h2 => exact .str j h1 h2
  | tup h1 _ ih =>
    obtain ⟨i, rfl⟩ : ∃ i, j = i + 1 := ⟨j - 1, by omega⟩
    exact .tup h1 fun r hr => ih r hr (by omega)
  | lst h1 _ ih =>
    obtain ⟨i, rfl⟩ : ∃ i, j = i + 1 := ⟨j - 1, by omega⟩
    exact .lst h1 fun r hr => ih r hr (by omega)
theorem Dt.lay {k : Nat} {r : R} (h : Dt k r) : Lay k r := by
  induction h with
  | non k => exact ⟨.none, rfl, rfl, Nat.zero_le _⟩
  | bl k b => exact ⟨.bool b, rfl, rfl, Nat.zero_le _⟩
  | int k i => exact Lay.int i
  | str k h1 h2 => exact Lay.str h2
  | tup h1 _ ih => exact Lay.tup (Lays.of ih)
  | lst h1 _ ih =>
    obtain ⟨ds, e1, e2, e3, e4⟩ := Lays.of ih
    exact ⟨.list ds, by rw [R.py, e1]; rfl, e3, Nat.succ_le_succ e4⟩
theorem Dt.mem {k : Nat} {rs : List R} {r : R} (h : Dt (k + 1) (.tup rs)) (m : r ∈ rs) : Dt k r := by
  cases h with
  | tup _ h2 => exact h2 r m
theorem Dt.len {k : Nat} {rs : List R} (h : Dt k (.tup rs)) : rs.length ≤ 1000 := by
  cases h with
  | tup h1 _ => exact h1
theorem smallG : ∀ k, k < 26 → 97 + k ∈ ("abcdefghijklmnopqrstuvwxyz" : Str).cps.toList := by decide +kernel
/-- a name -/
def smB (c : Nat) : Bool := decide (c ∈ ("abcdefghijklmnopqrstuvwxyz" : Str).cps.toList)
def nameB (s : Str) : Bool := decide (1 ≤ s.length) && (decide (s.length ≤ 8) && s.cps.toList.all smB)
def isNameR : R → Bool
  | .str s => nameB s
  | _ => false
theorem nameB_of {s : Str} (h : NameOk s) : nameB s = true := by
  unfold nameB
  rw [decide_eq_true h.lo, decide_eq_true h.hi, Bool.true_and, Bool.true_and, List.all_eq_true]
  intro c hc
  have b := h.cs c hc
  refine decide_eq_true ?_
  have := smallG (c - 97) (by omega)
  rwa [show 97 + (c - 97) = c by omega] at this
/-- what begins with a word -/
def hdS : R → Option (Str × List R)
  | .tup (.str t :: y :: tl) => some (t, y :: tl)
  | _ => none
def nthR (tl : List R) (i : Nat) : R := (tl[i]?).getD .non
def cntW (t : Str) : Nat := if t = "copy" then 2 else if t = "pick" then 4 else if inR (.str t) [.str "add", .str "less", .str "and", .str "or", .str "unlike", .str "same", .str "below"] = true then 3 else 0
def xpB (w : Nat) (t : Str) (tl : List R) : Bool :=
  if t = "number" then decide (tl.length = 1) && isWholeR (nthR tl 0) 0 ((2 ^ w - 1 : Nat) : Int)
  else if inR (.str t) [.str "up", .str "down"] = true then decide (tl.length = 2) && (isNameR (nthR tl 0) && isWholeR (nthR tl 1) 0 11)
  else decide (tl.length + 1 = cntW t) && tl.all isNameR
def isXpR (w : Nat) (r : R) : Bool := match hdS r with
  | some (t, tl) => xpB w t tl
  | none => false
def rowB (w : Nat) (t : Str) (tl : List R) : Bool :=
  if t = "set" then decide (tl.length = 2) && (isNameR (nthR tl 0) && isXpR w (nthR tl 1))
  else if t = "tell" then decide (tl.length = 1) && isNameR (nthR tl 0)
  else if t = "if" then decide (tl.length = 3) && isNameR (nthR tl 0)
  else decide (t = "round") && (decide (tl.length = 2) && isWholeR (nthR tl 0) 0 12)
def isRowR (w : Nat) (r : R) : Bool := match hdS r with
  | some (t, tl) => rowB w t tl
  | none => false
def innR (r : R) : List R := match hdS r with
  | some (t, tl) => if t = "if" then [nthR tl 1, nthR tl 2] else if t = "round" then [nthR tl 1] else []
  | none => []
def rndQ (r : R) : Nat := match hdS r with
  | some (t, _) => if t = "round" then 1 else 0
  | none => 0
/-- rows, and those within; f: how much deeper it may go -/
def okF (w : Nat) : Nat → Nat → R → Bool
  | 0, t, .tup rs => rs.isEmpty && decide (t ≤ 3)
  | f + 1, t, .tup rs => decide (t ≤ 3) && (rs.all (isRowR w) && rs.all fun r => (innR r).all (okF w f (t + rndQ r)))
  | _, _, _ => false
def cntF : Nat → R → Nat
  | 0, _ => 0
  | f + 1, .tup rs => rs.length + (rs.map fun r => ((innR r).map (cntF f)).sum).sum
  | _ + 1, _ => 0
def isRowsR (w : Nat) (r : R) : Bool := okF w 6 0 r && decide (cntF 6 r ≤ 60)
def isProgR : R → Bool
  | .tup [.int w, .tup ns, rows] => decide (1 ≤ w) && (decide (w ≤ 12) && (decide (ns.length ≤ 4) && (ns.all isNameR && isRowsR w.toNat rows)))
  | _ => false
end
section
variable {P : Program} {w : World} {K : PySem.W.Frag} {mg : Str → Option Value} {base : Heap}
def spIsNameG : DSp := fun rs M Q _ => ∃ (k : Nat) (r : R), rs = [r] ∧ Dt k r ∧ Q (.bl (isNameR r)) M
theorem ok_is_name (T : Txt w K mg) : DFn P w K mg base 1 (He.ga K "is_name") T.d_is_name ["thing"] (spIsNameG) := by
  refine dfn_of T.F_is_name sc_is_name (fun cdv A outer s H E hr tk hp => ⟨_, (dss_cons (ds_if (DW.dt (dw_or (dt_not (dt_val (de_callB call_isi sc_isi T.n_isinstance (da_cons (de_var 0) (da_cons (de_ty .str T.n_str) da_nil))))) (dw_or1 (dt_not (dt_chain op_le op_le sim_B0 sim_B0 de_int (de_callB call_lenU sc_len T.n_len (da_cons (de_var 0) da_nil)) (de_gint T.c_MOST_LETTERS)))))) (dss_cons (ds_ret de_bl)
    dss_nil) dss_nil)
    (dss_cons (ds_ret (de_callB (cr_all rfl) sc_all T.n_all (da_cons (de_lc (own := [("letter", 1)]) rfl sc_is_name.nd (di_str (de_var 0)) (blkOk_by (by show blkC ["thing", "letter"] (defScope s_is_name) _ _ = true; decide +kernel)) (simc1 (by decide)) (fun _ _ _ _ _ => (pg_name (i := 1) sc_is_name.nd rfl (Or.inl rfl))) (fun _ _ _ _ _ => dts_nil) (fun _ _ _ _ _ => (de_cmp op_inU sim_in (de_var 1) (de_gstr T.c_SMALL)))) da_nil)))
    dss_nil)), fun rs M Q xw h hl => ?_⟩)
  have sl : sizeLine = 16777216 := by decide
  obtain ⟨k, r, rfl, hd, hQ⟩ := h
  have nn : Ty.str ≠ .non := fun z => by cases z
  cases hd with
  | str _ h1 h2 =>
    rename_i s
    have hQ2 : Q (.bl (nameB s)) M := hQ
    unfold nameB at hQ2
    refine ⟨⟨fun z => (by cases z), fun _ => ⟨by omega, fun y => ⟨fun z => ?_, fun z => ?_⟩, fun y => ?_⟩⟩, nn⟩
    · have y' : 1 ≤ s.length := by have := of_decide_eq_true y; omega
      have z' : ¬ s.length ≤ 8 := fun q => by
        have e : decide ((s.length : Int) ≤ 8) = true := decide_eq_true (by omega)
        rw [e] at z; cases z
      rw [decide_eq_true y', decide_eq_false z'] at hQ2
      exact ⟨_, Sub.rfl', hQ2⟩
    · have y' : 1 ≤ s.length := by have := of_decide_eq_true y; omega
      have z' : s.length ≤ 8 := by
        by_cases q : s.length ≤ 8
        · exact q
        · have e : decide ((s.length : Int) ≤ 8) = false := decide_eq_false (by omega)
          rw [e] at z; cases z
      rw [decide_eq_true y', decide_eq_true z', Bool.true_and, Bool.true_and] at hQ2
      have ls : (signsOf s).length = s.length := by unfold signsOf; rw [List.length_map, Array.length_toList]; rfl
      refine ⟨by rw [ls]; omega, fun i acc M' => acc = ((s.cps.toList.take i).map smB).map R.bl ∧ M' = M, ⟨rfl, rfl⟩, ?_, ?_⟩
      · rintro i r acc M' hr _ ⟨rfl, rfl⟩
        refine ⟨fun _ => ?_, tn⟩
        unfold signsOf at hr
        rw [List.getElem?_map] at hr
        obtain ⟨c, hc, rfl⟩ := Option.map_eq_some_iff.mp hr
        refine .inl ⟨c, rfl, ?_, rfl⟩
        rw [List.take_succ, hc, List.map_append, List.map_append]
        rfl
      · rintro acc M' _ ⟨rfl, rfl⟩
        refine ⟨_, rfl, _, Sub.rfl', ?_⟩
        have e : s.cps.toList.take (signsOf s).length = s.cps.toList := by unfold signsOf; rw [List.length_map, List.take_length]
        rw [e, List.all_map]
        exact hQ2
    · have y' : ¬ 1 ≤ s.length := fun q => by
        have e : decide ((1 : Int) ≤ (s.length : Int)) = true := decide_eq_true (by omega)
        have y2 : decide ((1 : Int) ≤ (s.length : Int)) = false := y
        rw [e] at y2; cases y2
      rw [decide_eq_false y'] at hQ2
      exact ⟨fun _ => ⟨_, Sub.rfl', hQ2⟩, fun z => (by cases z)⟩
  | _ => exact ⟨⟨fun _ => ⟨fun _ => ⟨_, Sub.rfl', hQ⟩, tn⟩, tn⟩, nn⟩
end
section
variable {P : Program} {w : World} {K : PySem.W.Frag} {mg : Str → Option Value} {base : Heap}
def spFull : DSp := fun rs M Q _ => ∃ w : Nat, rs = [.int (w : Int)] ∧ w ≤ 1000 ∧ Q (.int ((2 ^ w - 1 : Nat) : Int)) M
theorem ok_full (T : Txt w K mg) : DFn P w K mg base 1 (He.ga K "full") T.d_full ["wide"] (spFull) := by
  refine dfn_of T.F_full sc_full (fun cdv A outer s H E hr tk hp => ⟨_, (dss_cons (ds_ret (de_op op_sub sim_I0 (de_op op_shl sim_IC de_int (de_var 0)) de_int))
    dss_nil), fun rs M Q xw h hl => ?_⟩)
  obtain ⟨n, rfl, h1, hQ⟩ := h
  rw [← shlM] at hQ
  exact ⟨pow1 h1, M, Sub.rfl', hQ⟩
end
section
variable {P : Program} {w : World} {K : PySem.W.Frag} {mg : Str → Option Value} {base : Heap}
theorem nth0 {y : R} {tl : List R} : nthR (y :: tl) 0 = y := rfl
theorem hd_none {rs : List R} (h : rs.length < 2) : hdS (.tup rs) = none := by
  match rs, h with
  | [], _ => rfl
  | [x], _ => cases x <;> rfl
  | _ :: _ :: _, h => exact absurd h (by simp)
theorem at1 {x y : R} {tl : List R} : atI (x :: y :: tl) 1 = some y := by rw [atI_nn (by decide) (by rw [List.length_cons, List.length_cons]; omega)]; rfl
theorem at0 {x : R} {tl : List R} : atI (x :: tl) 0 = some x := by rw [atI_nn (by decide) (by rw [List.length_cons]; omega)]; rfl
theorem at2 {x y z : R} {tl : List R} : atI (x :: y :: z :: tl) 2 = some z := by rw [atI_nn (by decide) (by rw [List.length_cons, List.length_cons, List.length_cons]; omega)]; rfl
theorem at3 {x y z u : R} {tl : List R} : atI (x :: y :: z :: u :: tl) 3 = some u := by rw [atI_nn (by decide) (by rw [List.length_cons, List.length_cons, List.length_cons, List.length_cons]; omega)]; rfl
def cntT2 : List (Key × R) := [(.inr "copy", .int 2), (.inr "pick", .int 4)]
theorem cntT2_val {x : Str} {n : Int} : (valR cntT2 (.inr x)).getD (.int n) = .int (if x = "copy" then 2 else if x = "pick" then 4 else n) := by
  unfold cntT2
  rw [vcons, vcons]
  by_cases h1 : x = "copy"
  · rw [if_pos (by rw [h1]), if_pos h1]; rfl
  · rw [if_neg (fun z => h1 (Sum.inr.inj z).symm), if_neg h1]
    by_cases h2 : x = "pick"
    · rw [if_pos (by rw [h2]), if_pos h2]; rfl
    · rw [if_neg (fun z => h2 (Sum.inr.inj z).symm), if_neg h2]; rfl
def spIsExprG : DSp := fun rs M Q _ => ∃ (k w : Nat) (r : R), rs = [r, .int (w : Int)] ∧ Dt k r ∧ w ≤ 12 ∧ ∀ M', Sub M M' → Q (.bl (isXpR w r)) M'
theorem ok_is_expr (T : Txt w K mg) : DFn P w K mg base 2 (He.ga K "is_expr") T.d_is_expr ["thing", "wide"] (spIsExprG) := by
  refine dfn_of T.F_is_expr sc_is_expr (fun cdv A outer s H E hr tk hp => ⟨_, (dss_cons (ds_if (DW.dt (dw_or (dt_not (dt_val (de_callB call_isi sc_isi T.n_isinstance (da_cons (de_var 0) (da_cons (de_ty .tup T.n_tuple) da_nil))))) (dw_or (dt_cmp op_ltU sim_lt (de_callB call_lenU sc_len T.n_len (da_cons (de_var 0) da_nil)) de_int) (dw_or1 (dt_not (dt_val (de_callB call_isi sc_isi T.n_isinstance (da_cons (de_ix (de_var 0) de_int) (da_cons (de_ty .str T.n_str) da_nil))))))))) (dss_cons (ds_ret de_bl)
    dss_nil) dss_nil)
    (dss_cons (ds_if (dt_cmp (op_eqU hr.hu) sim_eq (de_ix (de_var 0) de_int) de_str) (dss_cons (ds_ret (de_and (de_cmp (op_eqU hr.hu) sim_eq (de_callB call_lenU sc_len T.n_len (da_cons (de_var 0) da_nil)) de_int) (de_one (de_call (ok_is_whole T) (hr.mono (by decide)) T.g_is_whole T.F_is_whole.kp (b_is_whole T) tk (da_cons (de_ix (de_var 0) de_int) (da_cons de_int (da_cons (de_call (ok_full T) (hr.mono (by decide)) T.g_full T.F_full.kp (b_full T) tk (da_cons (de_var 1) da_nil)) da_nil)))))))
    dss_nil) dss_nil)
    (dss_cons (ds_if (dt_cmp op_inU sim_in (de_ix (de_var 0) de_int) (de_gtup T.g_MOVES T.c_MOVES)) (dss_cons (ds_ret (de_and (de_cmp (op_eqU hr.hu) sim_eq (de_callB call_lenU sc_len T.n_len (da_cons (de_var 0) da_nil)) de_int) (de_and (de_call (ok_is_name T) (hr.mono (by decide)) T.g_is_name T.F_is_name.kp (b_is_name T) tk (da_cons (de_ix (de_var 0) de_int) da_nil)) (de_one (de_call (ok_is_whole T) (hr.mono (by decide)) T.g_is_whole T.F_is_whole.kp (b_is_whole T) tk (da_cons (de_ix (de_var 0) de_int) (da_cons de_int (da_cons (de_gint T.c_MOST_MOVED) da_nil))))))))
    dss_nil) dss_nil)
    (dss_cons (ds_set 2 sc_is_expr.nd (de_dget2 hr.hu (de_disp (dps_cons de_str de_int (dps_cons de_str de_int dps_nil))) (de_ix (de_var 0) de_int) (de_if (dt_cmp op_inU sim_in (de_ix (de_var 0) de_int) (de_gtup T.g_PAIRS T.c_PAIRS)) de_int de_int)))
    (dss_cons (ds_ret (de_and (de_cmp (op_eqU hr.hu) sim_eq (de_callB call_lenU sc_len T.n_len (da_cons (de_var 0) da_nil)) (de_var 2)) (de_one (de_callB (cr_all rfl) sc_all T.n_all (da_cons (de_lc (own := [("name", 3)]) rfl sc_is_expr.nd (di_tup (de_slice (de_var 0) (do_some de_int) do_none)) (blkOk_by (by show blkC ["thing", "wide", "count", "name"] (defScope s_is_expr) _ _ = true; decide +kernel)) (simc1 (by decide)) (fun _ _ _ _ _ => (pg_name (i := 3) sc_is_expr.nd rfl (Or.inl rfl))) (fun _ _ _ _ _ => dts_nil) (fun _ _ _ _ _ => (de_call (ok_is_name T) (hr.mono (by decide)) T.g_is_name T.F_is_name.kp (b_is_name T) takes0 (da_cons (de_var 3) da_nil)))) da_nil)))))
    dss_nil))))), fun rs M Q xw h hl => ?_⟩)
  have sl : sizeLine = 16777216 := by decide
  obtain ⟨k, w, r, rfl, hd, w2, hQ⟩ := h
  have nn : Ty.tup ≠ .non := fun z => by cases z
  have ns : Ty.str ≠ .non := fun z => by cases z
  cases r with
  | tup rs =>
    have hl2 := hd.len
    cases hd with
    | tup _ hk =>
    match rs, hl2, hk, hQ with
    | [], _, _, hQ => exact ⟨⟨noT rfl, fun _ => ⟨fun _ => ⟨fun _ => ⟨_, Sub.rfl', hQ _ Sub.rfl'⟩, tn⟩, noF rfl⟩⟩, nn⟩
    | [x], _, _, hQ =>
      have e : isXpR w (.tup [x]) = false := by unfold isXpR; rw [hd_none (by show 1 < 2; decide)]
      rw [e] at hQ
      exact ⟨⟨noT rfl, fun _ => ⟨fun _ => ⟨fun _ => ⟨_, Sub.rfl', hQ _ Sub.rfl'⟩, tn⟩, noF rfl⟩⟩, nn⟩
    | x :: y :: tl, hl2, hk, hQ =>
      have h2 : ¬ ((((x :: y :: tl).length : Nat) : Int) < 2) := by rw [List.length_cons, List.length_cons]; omega
      have dx := hk x List.mem_cons_self
      refine ⟨⟨noT rfl, fun _ => ⟨fun z => absurd (of_decide_eq_true z) h2, fun _ => ⟨x, at0, ?_⟩⟩⟩, nn⟩
      cases dx with
      | @str _ t h3 h4 =>
        have e : isXpR w (.tup (.str t :: y :: tl)) = xpB w t (y :: tl) := rfl
        rw [e] at hQ
        unfold xpB at hQ
        refine ⟨⟨noT rfl, fun _ => ⟨.str t, at0, fun z1 => ?_, fun z1 => ?_⟩⟩, ns⟩
        · have e1 : t = "number" := of_decide_eq_true z1
          rw [if_pos e1] at hQ
          refine ⟨fun z2 => ?_, fun z2 => ?_⟩
          · have e2 : (y :: tl).length = 1 := by have := of_decide_eq_true z2; rw [List.length_cons] at this; omega
            rw [decide_eq_true e2, Bool.true_and, nth0] at hQ
            exact ⟨y, at1, w, rfl, by omega, y, 0, _, rfl, (hk y (List.mem_cons_of_mem _ List.mem_cons_self)).kind, _, Sub.rfl', hQ _ Sub.rfl'⟩
          · have e2 : ¬ (y :: tl).length = 1 := fun q => of_decide_eq_false z2 (by rw [List.length_cons, q]; rfl)
            rw [decide_eq_false e2, Bool.false_and] at hQ
            exact ⟨_, Sub.rfl', hQ _ Sub.rfl'⟩
        · have e1 : ¬ t = "number" := of_decide_eq_false z1
          rw [if_neg e1] at hQ
          refine ⟨.str t, at0, rfl, rfl, fun z2 => ?_, fun z2 => ?_⟩
          · rw [if_pos (show inR (.str t) [.str "up", .str "down"] = true from z2)] at hQ
            refine ⟨fun z3 => ?_, fun z3 => ?_⟩
            · have e2 : (y :: tl).length = 2 := by have := of_decide_eq_true z3; rw [List.length_cons] at this; omega
              rw [decide_eq_true e2, Bool.true_and, nth0] at hQ
              obtain ⟨u, rfl⟩ : ∃ u, tl = [u] := by
                match tl, e2 with
                | [u], _ => exact ⟨u, rfl⟩
              refine ⟨y, at1, _, y, rfl, hk y (List.mem_cons_of_mem _ List.mem_cons_self), fun z4 => ?_, fun z4 => ?_⟩
              · have z4' : isNameR y = true := z4
                rw [z4', Bool.true_and] at hQ
                exact ⟨u, at2, u, 0, 11, rfl, (hk u (by simp)).kind, _, Sub.rfl', hQ _ Sub.rfl'⟩
              · have z4' : isNameR y = false := z4
                rw [z4', Bool.false_and] at hQ
                exact ⟨_, Sub.rfl', hQ _ Sub.rfl'⟩
            · have e2 : ¬ (y :: tl).length = 2 := fun q => of_decide_eq_false z3 (by rw [List.length_cons, q]; rfl)
              rw [decide_eq_false e2, Bool.false_and] at hQ
              exact ⟨_, Sub.rfl', hQ _ Sub.rfl'⟩
          · rw [if_neg (by rw [show inR (.str t) [.str "up", .str "down"] = false from z2]; exact Bool.false_ne_true)] at hQ
            intro b hb
            refine ⟨⟨b, _, rfl, updM_same⟩, .str t, at0, .str t, at0, rfl, rfl, ?_⟩
            have fin : ∀ n : Int, (n = if inR (.str t) [.str "add", .str "less", .str "and", .str "or", .str "unlike", .str "same", .str "below"] = true then 3 else 0) → ((if t = "copy" then 2 else if t = "pick" then 4 else n) : Int) = (cntW t : Nat) := by
              intro n hn
              unfold cntW
              rw [hn]
              split
              · rfl
              · split
                · rfl
                · split <;> rfl
            refine ⟨fun z3 => ⟨cntT2, updM_same, ?_⟩, fun z3 => ⟨cntT2, updM_same, ?_⟩⟩
            case' refine_1 => rw [cntT2_val, fin 3 (by rw [if_pos (show inR (.str t) _ = true from z3)])]
            case' refine_2 => rw [cntT2_val, fin 0 (by rw [if_neg (by rw [show inR (.str t) [.str "add", .str "less", .str "and", .str "or", .str "unlike", .str "same", .str "below"] = false from z3]; exact Bool.false_ne_true)])]
            all_goals
              refine ⟨fun z4 => ?_, fun z4 => ?_⟩
              · have e2 : (y :: tl).length + 1 = cntW t := by have := of_decide_eq_true z4; rw [List.length_cons] at this; omega
                rw [decide_eq_true e2, Bool.true_and] at hQ
                have ec : cutR (R.str t :: y :: tl) (some 1) none = y :: tl := cutDrop (m := 1) (by rw [List.length_cons]; omega)
                have l1 : (R.str t :: y :: tl).length ≤ 1000 := hl2
                rw [List.length_cons] at l1
                refine ⟨by rw [ec]; omega, ?_⟩
                rw [ec]
                refine ⟨fun j acc M2 => acc = (((y :: tl).take j).map isNameR).map R.bl ∧ M2 = updM M b (.dK cntT2), ⟨rfl, rfl⟩, ?_, ?_⟩
                · rintro j r acc M2 hr _ ⟨rfl, rfl⟩
                  have hm : r ∈ y :: tl := List.mem_of_getElem? hr
                  exact ⟨fun _ => ⟨_, r, rfl, hk r (List.mem_cons_of_mem _ hm), by rw [List.take_succ, show (y :: tl)[j]? = some r from hr, List.map_append, List.map_append]; rfl, rfl⟩, tn⟩
                · rintro acc M2 _ ⟨rfl, rfl⟩
                  refine ⟨_, rfl, _, Sub.rfl', ?_⟩
                  rw [List.take_length, List.all_map]
                  exact hQ _ (Sub.new Sub.rfl' hb)
              · have e2 : ¬ (y :: tl).length + 1 = cntW t := fun q => of_decide_eq_false z4 (by rw [List.length_cons, q])
                rw [decide_eq_false e2, Bool.false_and] at hQ
                exact ⟨_, Sub.rfl', hQ _ (Sub.new Sub.rfl' hb)⟩
      | _ =>
        have hQ : ∀ M', Sub M M' → Q (.bl false) M' := hQ
        exact ⟨⟨fun _ => ⟨_, Sub.rfl', hQ _ Sub.rfl'⟩, noF rfl⟩, ns⟩
  | _ => cases hd <;> exact ⟨⟨fun _ => ⟨fun _ => ⟨_, Sub.rfl', hQ _ Sub.rfl'⟩, tn⟩, tn⟩, nn⟩
end
section
variable {P : Program} {w : World} {K : PySem.W.Frag} {mg : Str → Option Value} {base : Heap}
def spInner : DSp := fun rs M Q _ => ∃ x : Rw, rs = [x.r] ∧ Q (.lst (x.inn.map fun p => .tup (Rw.rl p))) M
theorem rowV : decide (("set" : Str) = "if") = false ∧ decide (("set" : Str) = "round") = false ∧ decide (("tell" : Str) = "if") = false ∧ decide (("tell" : Str) = "round") = false ∧ decide (("if" : Str) = "round") = false ∧ decide (("round" : Str) = "if") = false := by decide +kernel
theorem ok_inner_rows (T : Txt w K mg) : DFn P w K mg base 1 (He.ga K "inner_rows") T.d_inner_rows ["row"] (spInner) := by
  refine dfn_of T.F_inner_rows sc_inner_rows (fun cdv A outer s H E hr tk hp => ⟨_, (dss_cons (ds_if (dt_cmp (op_eqU hr.hu) sim_eq (de_ix (de_var 0) de_int) de_str) (dss_cons (ds_ret (de_lst (da_cons (de_ix (de_var 0) de_int) (da_cons (de_ix (de_var 0) de_int) da_nil))))
    dss_nil) dss_nil)
    (dss_cons (ds_ret (de_if (dt_cmp (op_eqU hr.hu) sim_eq (de_ix (de_var 0) de_int) de_str) (de_lst (da_cons (de_ix (de_var 0) de_int) da_nil)) (de_lst da_nil)))
    dss_nil)), fun rs M Q xw h hl => ?_⟩)
  obtain ⟨x, rfl, hQ⟩ := h
  cases x with
  | set a e =>
    rw [Rw.r]
    exact ⟨_, rfl, noT rowV.1, fun _ => ⟨_, rfl, noT rowV.2.1, fun _ => ⟨_, Sub.rfl', hQ⟩⟩⟩
  | tell a =>
    rw [Rw.r]
    exact ⟨_, rfl, noT rowV.2.2.1, fun _ => ⟨_, rfl, noT rowV.2.2.2.1, fun _ => ⟨_, Sub.rfl', hQ⟩⟩⟩
  | iff a p q =>
    rw [Rw.r]
    exact ⟨_, rfl, fun _ => ⟨_, rfl, _, rfl, _, Sub.rfl', hQ⟩, noF (decide_eq_true rfl)⟩
  | rnd n p =>
    rw [Rw.r]
    exact ⟨_, rfl, noT rowV.2.2.2.2.2, fun _ => ⟨_, rfl, fun _ => ⟨_, rfl, _, Sub.rfl', hQ⟩, noF (decide_eq_true rfl)⟩⟩
/-- a row by its form, and the words of it -/
def spInnerG : DSp := fun rs M Q _ => ∃ (w : Nat) (r : R), rs = [r] ∧ isRowR w r = true ∧ Q (.lst (innR r)) M
theorem row_cases {w : Nat} {r : R} (h : isRowR w r = true) : ∃ t y tl, r = .tup (.str t :: y :: tl) ∧ innR r = (if t = "if" then [nthR (y :: tl) 1, nthR (y :: tl) 2] else if t = "round" then [nthR (y :: tl) 1] else []) ∧
    (t = "if" → ∃ a b, tl = [a, b]) ∧ (t ≠ "if" → t = "round" → ∃ a, tl = [a]) ∧ rndQ r = (if t = "round" then 1 else 0) := by
  unfold isRowR at h
  split at h
  · rename_i t tl e
    unfold hdS at e
    split at e
    · rename_i t2 y tl2
      cases e
      refine ⟨_, y, tl2, rfl, rfl, fun e1 => ?_, fun e0 e1 => ?_, rfl⟩
      · subst e1
        unfold rowB at h
        rw [if_neg (by decide +kernel), if_neg (by decide +kernel), if_pos rfl, Bool.and_eq_true] at h
        have l := of_decide_eq_true h.1
        match tl2, l with
        | [a, b], _ => exact ⟨a, b, rfl⟩
      · subst e1
        unfold rowB at h
        rw [if_neg (by decide +kernel), if_neg (by decide +kernel), if_neg e0, Bool.and_eq_true, Bool.and_eq_true] at h
        have l := of_decide_eq_true h.2.1
        match tl2, l with
        | [a], _ => exact ⟨a, rfl⟩
    · cases e
  · cases h
theorem okg_inner_rows (T : Txt w K mg) : DFn P w K mg base 1 (He.ga K "inner_rows") T.d_inner_rows ["row"] (spInnerG) := by
  refine dfn_of T.F_inner_rows sc_inner_rows (fun cdv A outer s H E hr tk hp => ⟨_, (dss_cons (ds_if (dt_cmp (op_eqU hr.hu) sim_eq (de_ix (de_var 0) de_int) de_str) (dss_cons (ds_ret (de_lst (da_cons (de_ix (de_var 0) de_int) (da_cons (de_ix (de_var 0) de_int) da_nil))))
    dss_nil) dss_nil)
    (dss_cons (ds_ret (de_if (dt_cmp (op_eqU hr.hu) sim_eq (de_ix (de_var 0) de_int) de_str) (de_lst (da_cons (de_ix (de_var 0) de_int) da_nil)) (de_lst da_nil)))
    dss_nil)), fun rs M Q xw h hl => ?_⟩)
  obtain ⟨w, r, rfl, hr, hQ⟩ := h
  obtain ⟨t, y, tl, rfl, e, h1, h2, _⟩ := row_cases hr
  rw [e] at hQ
  refine ⟨.str t, at0, fun z => ?_, fun z => ?_⟩
  · have z1 : t = "if" := of_decide_eq_true z
    obtain ⟨a, b, rfl⟩ := h1 z1
    rw [if_pos z1] at hQ
    exact ⟨a, at2, b, at3, _, Sub.rfl', hQ⟩
  · have z1 : ¬ t = "if" := of_decide_eq_false z
    rw [if_neg z1] at hQ
    refine ⟨.str t, at0, fun z2 => ?_, fun z2 => ?_⟩
    · have z3 : t = "round" := of_decide_eq_true z2
      obtain ⟨a, rfl⟩ := h2 z1 z3
      rw [if_pos z3] at hQ
      exact ⟨a, at2, _, Sub.rfl', hQ⟩
    · rw [if_neg (of_decide_eq_false z2)] at hQ
      exact ⟨_, Sub.rfl', hQ⟩
end
section
variable {P : Program} {w : World} {K : PySem.W.Frag} {mg : Str → Option Value} {base : Heap}
mutual
/-- a row and the rows within it, one by one -/
def Rw.al : Rw → List R
  | .set a e => [(Rw.set a e).r]
  | .tell a => [(Rw.tell a).r]
  | .iff a p q => (Rw.iff a p q).r :: (Rw.all p ++ Rw.all q)
  | .rnd k p => (Rw.rnd k p).r :: Rw.all p
def Rw.all : List Rw → List R
  | [] => []
  | x :: xs => x.al ++ Rw.all xs
end
mutual
theorem al_len : ∀ x : Rw, x.al.length = x.ct
  | .set _ _ => rfl
  | .tell _ => rfl
  | .iff _ p q => by rw [Rw.al, Rw.ct, List.length_cons, List.length_append, all_len p, all_len q, Nat.add_comm]
  | .rnd _ p => by rw [Rw.al, Rw.ct, List.length_cons, all_len p, Nat.add_comm]
theorem all_len : ∀ xs : List Rw, (Rw.all xs).length = Rw.ctl xs
  | [] => rfl
  | x :: xs => by rw [Rw.all, Rw.ctl, List.length_append, al_len x, all_len xs]
end
theorem all_app : ∀ xs ys : List Rw, Rw.all (xs ++ ys) = Rw.all xs ++ Rw.all ys
  | [], ys => by rw [List.nil_append, Rw.all, List.nil_append]
  | x :: xs, ys => by rw [List.cons_append, Rw.all, Rw.all, all_app xs, List.append_assoc]
theorem all_take {xs : List Rw} {i : Nat} {x : Rw} (h : xs[i]? = some x) : Rw.all (xs.take (i + 1)) = Rw.all (xs.take i) ++ x.al := by
  rw [List.take_succ, h, all_app]
  show _ ++ Rw.all [x] = _
  rw [Rw.all, Rw.all, List.append_nil]
theorem al_inn (x : Rw) : x.al = x.r :: (x.inn.map Rw.all).flatten := by
  cases x <;> rw [Rw.al, Rw.inn] <;> simp
theorem sum_take_le : ∀ (l : List Nat) (j : Nat), (l.take j).sum ≤ l.sum
  | [], j => by rw [List.take_nil]; exact Nat.le_refl _
  | a :: l, 0 => Nat.zero_le _
  | a :: l, j + 1 => by
    rw [List.take_succ_cons, List.sum_cons, List.sum_cons]
    have := sum_take_le l j
    omega
theorem alls_len : ∀ ps : List (List Rw), (ps.map Rw.all).flatten.length = (ps.map Rw.ctl).sum
  | [] => rfl
  | p :: ps => by rw [List.map_cons, List.flatten_cons, List.length_append, alls_len ps, all_len, List.map_cons, List.sum_cons]
def spWithin (d : Nat) : DSp := fun rs M Q _ => ∃ (w : Nat) (ns : List Str) (xs : List Rw), rs = [.tup (Rw.rl xs)] ∧ 1 ≤ d ∧ Rw.Vdl w ns d xs ∧ Rw.ctl xs ≤ 1000 ∧ ∀ M', Sub M M' → Q (.lst (Rw.all xs)) M'
theorem inn_vd {w : Nat} {ns : List Str} {d : Nat} {x : Rw} (h : Rw.Vd w ns (d + 1) x) : ∀ p ∈ x.inn, 1 ≤ d ∧ Rw.Vdl w ns d p := by
  intro p hp
  cases x with
  | set a e => cases hp
  | tell a => cases hp
  | iff a q r =>
    rw [Rw.Vd] at h
    rw [Rw.inn] at hp
    simp only [List.mem_cons, List.not_mem_nil, or_false] at hp
    rcases hp with rfl | rfl
    · exact ⟨by omega, h.2.2.1⟩
    · exact ⟨by omega, h.2.2.2⟩
  | rnd k q =>
    rw [Rw.Vd] at h
    rw [Rw.inn] at hp
    simp only [List.mem_cons, List.not_mem_nil, or_false] at hp
    rw [hp]
    exact ⟨by omega, h.2.2⟩
theorem inn_ct (x : Rw) : x.ct = 1 + (x.inn.map Rw.ctl).sum := by
  cases x <;> rw [Rw.ct, Rw.inn] <;> simp
def spWithinO (d : Nat) : DSp := fun rs M Q _ => ∃ (w : Nat) (ns : List Str) (xs : List Rw), rs = [.tup (Rw.rl xs)] ∧ 1 ≤ d ∧ Rw.Vdl w ns d xs ∧ Rw.ctl xs ≤ 1000 ∧ ∀ M' o, Sub M M' → M o = none → M' o = some (.lst (Rw.all xs)) → Q (.o o) M'
theorem spWithinO_void : ∀ rs M Q xw, ¬ spWithinO 0 rs M Q xw := fun _ _ _ _ ⟨_, _, _, _, h, _⟩ => by omega
theorem oko_rows_within (T : Txt w K mg) : ∀ d : Nat, DFn P w K mg base (d + 2) (He.ga K "rows_within") T.d_rows_within ["rows"] (spWithinO d)
 | 0 => dfn_void T.F_rows_within sc_rows_within spWithinO_void
 | d + 1 => by
  refine dfn_of T.F_rows_within sc_rows_within (fun cdv A outer s H E hr tk hp => ⟨_, (dss_cons (ds_set 1 sc_rows_within.nd (de_lstO da_nil))
    (dss_cons (ds_for hp rfl (di_tup (de_var 0)) (dg_name 2 sc_rows_within.nd) (dss_cons (ds_expr (de_append (de_var 1) (da_cons (de_var 2) da_nil)))
    (dss_cons (ds_for hp rfl (di_list (de_call (ok_inner_rows T) (hr.mono (by omega)) T.g_inner_rows T.F_inner_rows.kp (b_inner_rows T) tk (da_cons (de_var 2) da_nil))) (dg_name 3 sc_rows_within.nd) (dss_cons (ds_expr (de_extend (de_var 1) (da_cons (de_call (oko_rows_within T d) (hr.mono (by omega)) T.g_rows_within T.F_rows_within.kp (b_rows_within T) tk (da_cons (de_var 3) da_nil)) da_nil)))
    dss_nil))
    dss_nil)))
    (dss_cons (ds_ret (de_var 1))
    dss_nil))), fun rs M Q xw h hl => ?_⟩)
  obtain ⟨w, ns, xs, rfl, d1, hv, hc, hQ⟩ := h
  have sl : sizeLine = 16777216 := by decide
  intro f hf
  have hfM : M f = none := hf
  refine ⟨fun i g' M' => ∃ s2 s3 : Option R, g' = [some (.tup (Rw.rl xs)), some (.o f), s2, s3] ∧ Sub M M' ∧ M' f = some (.lst (Rw.all (xs.take i))), ⟨_, _, rfl, Sub.new Sub.rfl' hfM, by rw [updM_same, List.take_zero, Rw.all]⟩, ?_, ?_⟩
  · rintro i r g' M' hr ⟨s2, s3, rfl, hs, hF⟩
    rw [rl_map, List.getElem?_map] at hr
    obtain ⟨x, hx, rfl⟩ := Option.map_eq_some_iff.mp hr
    have vx := vdl_mem hv (List.mem_of_getElem? hx)
    have e1 := ctl_take hx
    have e2 := ctl_take_le xs (i + 1)
    have l1 := all_len (xs.take i)
    have ci := inn_ct x
    refine ⟨⟨_, hF⟩, _, hF, by rw [l1]; omega, x, rfl, fun j g' M2 => ∃ s3 : Option R, g' = [some (.tup (Rw.rl xs)), some (.o f), some x.r, s3] ∧ Sub M M2 ∧ M2 f = some (.lst (Rw.all (xs.take i) ++ x.r :: ((x.inn.take j).map Rw.all).flatten)),
      ⟨_, rfl, Sub.new hs hfM, updM_same⟩, ?_, ?_⟩
    · rintro j r g' M2 hr2 ⟨s3, rfl, h1, h2⟩
      rw [List.getElem?_map] at hr2
      obtain ⟨p, hp, rfl⟩ := Option.map_eq_some_iff.mp hr2
      have vp := inn_vd vx p (List.mem_of_getElem? hp)
      have b1 := sum_take_le (x.inn.map Rw.ctl) (j + 1)
      have b2 : (x.inn.map Rw.ctl).take (j + 1) = (x.inn.take j).map Rw.ctl ++ [Rw.ctl p] := by
        rw [← List.map_take, List.take_succ, hp, List.map_append]; rfl
      rw [b2, List.sum_append] at b1
      have b3 : [Rw.ctl p].sum = Rw.ctl p := by simp
      have b4 := alls_len (x.inn.take j)
      have b5 := all_len p
      refine ⟨⟨_, h2⟩, w, ns, p, rfl, vp.1, vp.2, by omega, fun M3 o s3 ho hO => ⟨_, _, s3 _ _ h2, hO, ?_, _, rfl, Sub.new (fun b u e => s3 _ _ (h1 _ _ e)) hfM, ?_⟩⟩
      · rw [List.length_append, List.length_cons, b4, b5, l1]; omega
      · rw [updM_same, List.take_succ, hp, List.map_append, List.flatten_append, List.append_assoc, List.cons_append]
        show _ = some (MO.lst (_ ++ x.r :: (_ ++ [Rw.all p].flatten)))
        rw [List.flatten_cons, List.flatten_nil, List.append_nil]
    · rintro g' M2 ⟨s3, rfl, h1, h2⟩
      refine ⟨_, _, rfl, h1, ?_⟩
      rw [h2, List.length_map, List.take_length, all_take hx, al_inn]
  · rintro g' M' ⟨s2, s3, rfl, hs, hF⟩
    have lr : (Rw.rl xs).length = xs.length := by rw [rl_map, List.length_map]
    rw [lr, List.take_length] at hF
    exact ⟨_, Sub.rfl', hQ _ _ hs hfM hF⟩
theorem sub_erase {M M' : MH} {f : Addr} (h : Sub M M') (n : M f = none) : Sub M (eraseM M' f) := fun b u q => by
  have n : b ≠ f := fun z => by rw [z, n] at q; cases q
  unfold eraseM
  rw [if_neg n]
  exact h b u q
theorem ok_rows_within (T : Txt w K mg) (d : Nat) : DFn P w K mg base (d + 2) (He.ga K "rows_within") T.d_rows_within ["rows"] (spWithin d) := ((oko_rows_within T d).fzS).imp fun rs M Q xw ⟨w, ns, xs, e, d1, hv, hc, hQ⟩ =>
  ⟨w, ns, xs, e, d1, hv, hc, fun M' o s n h => ⟨_, h, hQ _ (sub_erase s n)⟩⟩
end
section
variable {P : Program} {w : World} {K : PySem.W.Frag} {mg : Str → Option Value} {base : Heap}
/-- the names that a row uses -/
def Rw.us : Rw → List Str
  | .set _ e => e.names
  | .tell a => [a]
  | .iff a _ _ => [a]
  | .rnd _ _ => []
def pTxt (r : R) : Bool := match r with
  | .str _ => true
  | _ => false
theorem useW : (∀ u, decide (mvw u = "number") = false) ∧ decide (("copy" : Str) = "number") = false ∧ decide (("pick" : Str) = "number") = false ∧ (∀ x ∈ pairWords, decide (x = "number") = false) ∧
    decide (("tell" : Str) = "set") = false ∧ decide (("if" : Str) = "set") = false ∧ decide (("round" : Str) = "set") = false ∧ decide (("tell" : Str) = "round") = false ∧ decide (("if" : Str) = "round") = false := by decide +kernel
theorem Xp.tl (e : Xp) : ∃ x tl, e.r = .tup (.str x :: tl) ∧ tl.length ≤ 3 ∧ (tl.filter pTxt).map id = e.names.map R.str ∧ ∀ r ∈ tl, (∃ s, r = .str s) ∨ ∃ i, r = .int i := by
  cases e with
  | num n => exact ⟨_, _, rfl, (by decide : 1 ≤ 3), rfl, fun r hr => .inr ⟨_, List.mem_singleton.mp hr⟩⟩
  | cop a => exact ⟨_, _, rfl, (by decide : 1 ≤ 3), rfl, fun r hr => .inl ⟨_, List.mem_singleton.mp hr⟩⟩
  | mov u a m => exact ⟨_, _, rfl, (by decide : 2 ≤ 3), rfl, fun r hr => by
      simp only [List.mem_cons, List.not_mem_nil, or_false] at hr
      rcases hr with rfl | rfl
      · exact .inl ⟨_, rfl⟩
      · exact .inr ⟨_, rfl⟩⟩
  | pic a b c => exact ⟨_, _, rfl, (by decide : 3 ≤ 3), rfl, fun r hr => by
      simp only [List.mem_cons, List.not_mem_nil, or_false] at hr
      rcases hr with rfl | rfl | rfl <;> exact .inl ⟨_, rfl⟩⟩
  | par x a b => exact ⟨_, _, rfl, (by decide : 2 ≤ 3), rfl, fun r hr => by
      simp only [List.mem_cons, List.not_mem_nil, or_false] at hr
      rcases hr with rfl | rfl <;> exact .inl ⟨_, rfl⟩⟩
def spUses : DSp := fun rs M Q _ => ∃ (w : Nat) (ns : List Str) (d : Nat) (x : Rw), rs = [x.r] ∧ Rw.Vd w ns d x ∧ Q (.lst (x.us.map R.str)) M
def spUsesO : DSp := fun rs M Q _ => ∃ (w : Nat) (ns : List Str) (d : Nat) (x : Rw), rs = [x.r] ∧ Rw.Vd w ns d x ∧ ∀ o, M o = none → Q (.o o) (updM M o (.lst (x.us.map R.str)))
theorem oko_uses (T : Txt w K mg) : DFn P w K mg base 1 (He.ga K "uses") T.d_uses ["row"] (spUsesO) := by
  refine dfn_of T.F_uses sc_uses (fun cdv A outer s H E hr tk hp => ⟨_, (dss_cons (ds_if (dt_cmp (op_eqU hr.hu) sim_eq (de_ix (de_var 0) de_int) de_str) (dss_cons (ds_ret (de_if (dt_cmp (op_eqU hr.hu) sim_eq (de_ix (de_ix (de_var 0) de_int) de_int) de_str) (de_lstO da_nil) (de_lcO (own := [("one", 1)]) rfl sc_uses.nd (di_tup (de_slice (de_ix (de_var 0) de_int) (do_some de_int) do_none)) (blkOk_by (by show blkC ["row", "one"] (defScope s_uses) _ _ = true; decide +kernel)) (simc1 (by decide)) (fun _ _ _ _ _ => (pg_name (i := 1) sc_uses.nd rfl (Or.inl rfl))) (fun _ _ _ _ _ => (dts_one (dt_val (de_callB call_isi sc_isi T.n_isinstance (da_cons (de_var 1) (da_cons (de_ty .str T.n_str) da_nil)))))) (fun _ _ _ _ _ => (de_var 1)))))
    dss_nil) dss_nil)
    (dss_cons (ds_ret (de_if (dt_cmp (op_eqU hr.hu) sim_eq (de_ix (de_var 0) de_int) de_str) (de_lstO da_nil) (de_lstO (da_cons (de_ix (de_var 0) de_int) da_nil))))
    dss_nil)), fun rs M Q xw h hl => ?_⟩)
  have sl : sizeLine = 16777216 := by decide
  obtain ⟨w, ns, d, x, rfl, hv, hQ⟩ := h
  cases x with
  | set a e =>
    rw [Rw.r]
    rw [Rw.Vd] at hv
    have hok := hv.2.ok
    obtain ⟨y, tl, e1, e2, e3, e4⟩ := Xp.tl e
    refine ⟨_, rfl, fun _ => ?_, noF (decide_eq_true rfl)⟩
    rw [e1]
    refine ⟨.tup (.str y :: tl), rfl, .str y, (by rw [atI_nn (by decide) (by rw [List.length_cons]; omega)]; rfl), fun z => ?_, fun z => ?_⟩
    · have hn : e.names = [] := by
        have z' : decide (y = "number") = true := z
        cases e with
        | num n => rfl
        | cop a => cases e1; exact absurd (useW.2.1.symm.trans z') (by decide)
        | mov u a m => cases e1; exact absurd ((useW.1 u).symm.trans z') (by decide)
        | pic a b c => cases e1; exact absurd (useW.2.2.1.symm.trans z') (by decide)
        | par x a b => cases e1; exact absurd ((useW.2.2.2.1 _ hok).symm.trans z') (by decide)
      have q : ∀ o, M o = none → Q (.o o) (updM M o (.lst (e.names.map R.str))) := hQ
      rw [hn] at q
      exact fun o ho => ⟨_, Sub.rfl', q o ho⟩
    · have ec : cutR (.str y :: tl) (some 1) none = tl := cutDrop (m := 1) (by rw [List.length_cons]; omega)
      refine ⟨_, rfl, (by rw [ec]; omega), ?_⟩
      rw [ec]
      refine ⟨fun i acc M' => acc = (tl.take i).filter pTxt ∧ M' = M, ⟨rfl, rfl⟩, ?_, ?_⟩
      · rintro i r acc M' hr - ⟨rfl, rfl⟩
        have e5 : (tl.take (i + 1)).filter pTxt = (tl.take i).filter pTxt ++ (if pTxt r = true then [r] else []) := by
          rw [List.take_succ, hr, List.filter_append]
          congr 1
          show [r].filter pTxt = _
          by_cases m : pTxt r = true
          · rw [List.filter_cons, if_pos m, if_pos m]; rfl
          · rw [List.filter_cons, if_neg m, if_neg m]; rfl
        rcases e4 r (List.mem_of_getElem? hr) with ⟨s, rfl⟩ | ⟨i, rfl⟩
        · exact ⟨⟨fun _ => ⟨e5.symm, rfl⟩, fun z => (by cases z)⟩, fun z => (by cases z)⟩
        · exact ⟨⟨fun z => (by cases z), fun _ => ⟨(List.append_nil _).symm.trans e5.symm, rfl⟩⟩, fun z => (by cases z)⟩
      · rintro acc M' - ⟨rfl, rfl⟩ o ho
        rw [List.map_id] at e3
        rw [List.take_length, e3]
        exact ⟨_, Sub.rfl', hQ o ho⟩
  | tell a =>
    rw [Rw.r]
    exact ⟨_, rfl, noT useW.2.2.2.2.1, fun _ => ⟨_, rfl, noT useW.2.2.2.2.2.2.2.1, fun _ => ⟨_, rfl, fun o ho => ⟨_, Sub.rfl', hQ o ho⟩⟩⟩⟩
  | iff a p q =>
    rw [Rw.r]
    exact ⟨_, rfl, noT useW.2.2.2.2.2.1, fun _ => ⟨_, rfl, noT useW.2.2.2.2.2.2.2.2, fun _ => ⟨_, rfl, fun o ho => ⟨_, Sub.rfl', hQ o ho⟩⟩⟩⟩
  | rnd n p =>
    rw [Rw.r]
    exact ⟨_, rfl, noT useW.2.2.2.2.2.2.1, fun _ => ⟨_, rfl, fun _ => fun o ho => ⟨_, Sub.rfl', hQ o ho⟩, noF (decide_eq_true rfl)⟩⟩
theorem erase_upd {M : MH} {o : Addr} {m : MO} (h : M o = none) : eraseM (updM M o m) o = M := by
  funext b
  unfold eraseM
  by_cases z : b = o
  · rw [if_pos z, z, h]
  · rw [if_neg z, updM_ne z]
theorem ok_uses (T : Txt w K mg) : DFn P w K mg base 1 (He.ga K "uses") T.d_uses ["row"] (spUses) := ((oko_uses T).fzS).imp fun rs M Q xw ⟨w, ns, d, x, e, v, hQ⟩ =>
  ⟨w, ns, d, x, e, v, fun o ho => ⟨_, updM_same, by rw [erase_upd ho]; exact hQ⟩⟩
end
section
variable {P : Program} {w : World} {K : PySem.W.Frag} {mg : Str → Option Value} {base : Heap}
/-- a program by its form; whether its names are there is another thing -/
structure PfOk (w : Nat) (names ns : List Str) (xs : List Rw) : Prop where
  w1 : 1 ≤ w
  w2 : w ≤ 12
  nm : ∀ s ∈ names, NameOk s
  sub : ∀ s ∈ ns, s ∈ names
  nl : ns.length ≤ 4
  vd : Rw.Vdl w names 6 xs
  tr : Rw.trl xs ≤ 3
  ct : Rw.ctl xs ≤ 60
theorem PgOk.pf {w : Nat} {names ns : List Str} {xs : List Rw} (p : PgOk w names ns xs) : PfOk w names ns xs := ⟨p.w1, p.w2, p.nm, p.sub, p.nl, p.vd, p.tr, p.ct⟩
def Rw.rnq : Rw → Nat
  | .rnd _ _ => 1
  | _ => 0
theorem trl_rnq {x : Rw} {q : List Rw} (h : q ∈ x.inn) : Rw.trl q + x.rnq ≤ x.tr := by
  have h1 := trl_inn h
  cases x with
  | rnd k p => rw [Rw.inn] at h; rw [List.mem_singleton.mp h, Rw.tr]; exact Nat.le_refl _
  | _ => exact h1
theorem wdF : (∀ u, ¬ mvw u = "number" ∧ inR (.str (mvw u)) [.str "up", .str "down"] = true) ∧ (¬ ("copy" : Str) = "number" ∧ ¬ inR (.str "copy") [.str "up", .str "down"] = true ∧ cntW "copy" = 2) ∧ (¬ ("pick" : Str) = "number" ∧ ¬ inR (.str "pick") [.str "up", .str "down"] = true ∧ cntW "pick" = 4) ∧
    (∀ x ∈ pairWords, ¬ x = "number" ∧ ¬ inR (.str x) [.str "up", .str "down"] = true ∧ cntW x = 3) ∧ (¬ ("tell" : Str) = "set" ∧ ¬ ("if" : Str) = "set" ∧ ¬ ("if" : Str) = "tell" ∧ ¬ ("round" : Str) = "set" ∧ ¬ ("round" : Str) = "tell" ∧ ¬ ("round" : Str) = "if" ∧
    ¬ ("set" : Str) = "if" ∧ ¬ ("set" : Str) = "round" ∧ ¬ ("tell" : Str) = "if" ∧ ¬ ("tell" : Str) = "round" ∧ ¬ ("if" : Str) = "round") := by decide +kernel
theorem wholeY {i a b : Int} (h1 : a ≤ i) (h2 : i ≤ b) : isWholeR (.int i) a b = true := by
  show (decide (a ≤ i) && decide (i ≤ b)) = true
  rw [decide_eq_true h1, decide_eq_true h2]; rfl
theorem nameY {s : Str} (h : NameOk s) : isNameR (.str s) = true := nameB_of h
theorem xp_yes {w : Nat} {ns : List Str} {e : Xp} (hn : ∀ s ∈ ns, NameOk s) (he : XpOk w ns e) : isXpR w e.r = true := by
  have hns : ∀ a ∈ e.names, NameOk a := fun a ha => hn a (he.ns a ha)
  cases e with
  | num n =>
    have hnum : n < 2 ^ w := he.num
    show xpB w "number" [.int n] = true
    unfold xpB
    rw [if_pos rfl]
    show (true && isWholeR (.int (n : Int)) 0 ((2 ^ w - 1 : Nat) : Int)) = true
    rw [wholeY (by omega) (by omega)]; rfl
  | mov u a m =>
    have hm := he.mv u a m rfl
    show xpB w (mvw u) [.str a, .int m] = true
    unfold xpB
    rw [if_neg (wdF.1 u).1, if_pos (wdF.1 u).2]
    show (true && (isNameR (.str a) && isWholeR (.int (m : Int)) 0 11)) = true
    rw [nameY (hns a (List.mem_singleton.mpr rfl)), wholeY (by omega) (by omega)]; rfl
  | cop a =>
    show xpB w "copy" [.str a] = true
    unfold xpB
    rw [if_neg wdF.2.1.1, if_neg wdF.2.1.2.1, wdF.2.1.2.2]
    show (true && (isNameR (.str a) && true)) = true
    rw [nameY (hns a (List.mem_singleton.mpr rfl))]; rfl
  | pic a b c =>
    show xpB w "pick" [.str a, .str b, .str c] = true
    unfold xpB
    rw [if_neg wdF.2.2.1.1, if_neg wdF.2.2.1.2.1, wdF.2.2.1.2.2]
    show (true && (isNameR (.str a) && (isNameR (.str b) && (isNameR (.str c) && true)))) = true
    rw [nameY (hns a (by simp [Xp.names])), nameY (hns b (by simp [Xp.names])), nameY (hns c (by simp [Xp.names]))]; rfl
  | par x a b =>
    have hx := wdF.2.2.2.1 x he.ok
    show xpB w x [.str a, .str b] = true
    unfold xpB
    rw [if_neg hx.1, if_neg hx.2.1, hx.2.2]
    show (true && (isNameR (.str a) && (isNameR (.str b) && true))) = true
    rw [nameY (hns a (by simp [Xp.names])), nameY (hns b (by simp [Xp.names]))]; rfl
theorem innR_cons (t : Str) (y : R) (tl : List R) : innR (.tup (.str t :: y :: tl)) = if t = "if" then [nthR (y :: tl) 1, nthR (y :: tl) 2] else if t = "round" then [nthR (y :: tl) 1] else [] := rfl
theorem row_yes {w d : Nat} {ns : List Str} {x : Rw} (hn : ∀ s ∈ ns, NameOk s) (hv : Rw.Vd w ns d x) : isRowR w x.r = true ∧ innR x.r = x.inn.map (fun p => R.tup (Rw.rl p)) ∧ rndQ x.r = x.rnq := by
  have F := wdF.2.2.2.2
  cases x with
  | set a e =>
    rw [Rw.Vd] at hv
    refine ⟨?_, ?_, ?_⟩
    · rw [Rw.r]
      show rowB w "set" [.str a, e.r] = true
      unfold rowB
      rw [if_pos rfl]
      show (true && (isNameR (.str a) && isXpR w e.r)) = true
      rw [nameY (hn a hv.1), xp_yes hn hv.2]; rfl
    · rw [Rw.r]
      rw [innR_cons, if_neg F.2.2.2.2.2.2.1, if_neg F.2.2.2.2.2.2.2.1]; rfl
    · rw [Rw.r]
      show (if ("set" : Str) = "round" then 1 else 0) = 0
      rw [if_neg F.2.2.2.2.2.2.2.1]
  | tell a =>
    rw [Rw.Vd] at hv
    refine ⟨?_, ?_, ?_⟩
    · rw [Rw.r]
      show rowB w "tell" [.str a] = true
      unfold rowB
      rw [if_neg F.1, if_pos rfl]
      show (true && isNameR (.str a)) = true
      rw [nameY (hn a hv)]; rfl
    · rw [Rw.r]
      rw [innR_cons, if_neg F.2.2.2.2.2.2.2.2.1, if_neg F.2.2.2.2.2.2.2.2.2.1]; rfl
    · rw [Rw.r]
      show (if ("tell" : Str) = "round" then 1 else 0) = 0
      rw [if_neg F.2.2.2.2.2.2.2.2.2.1]
  | iff a p q =>
    rw [Rw.Vd] at hv
    refine ⟨?_, ?_, ?_⟩
    · rw [Rw.r]
      show rowB w "if" [.str a, .tup (Rw.rl p), .tup (Rw.rl q)] = true
      unfold rowB
      rw [if_neg F.2.1, if_neg F.2.2.1, if_pos rfl]
      show (true && isNameR (.str a)) = true
      rw [nameY (hn a hv.1)]; rfl
    · rw [Rw.r]
      rw [innR_cons, if_pos rfl]; rfl
    · rw [Rw.r]
      show (if ("if" : Str) = "round" then 1 else 0) = 0
      rw [if_neg F.2.2.2.2.2.2.2.2.2.2]
  | rnd k p =>
    rw [Rw.Vd] at hv
    refine ⟨?_, ?_, ?_⟩
    · rw [Rw.r]
      show rowB w "round" [.int (k : Int), .tup (Rw.rl p)] = true
      unfold rowB
      rw [if_neg F.2.2.2.1, if_neg F.2.2.2.2.1, if_neg F.2.2.2.2.2.1]
      show (decide (("round" : Str) = "round") && (true && isWholeR (.int (k : Int)) 0 12)) = true
      rw [decide_eq_true rfl, wholeY (by omega) (by omega)]; rfl
    · rw [Rw.r]
      rw [innR_cons, if_neg F.2.2.2.2.2.1, if_pos rfl]; rfl
    · rw [Rw.r]
      show (if ("round" : Str) = "round" then 1 else 0) = 1
      rw [if_pos rfl]
theorem okF_yes {w : Nat} {ns : List Str} (hn : ∀ s ∈ ns, NameOk s) : ∀ (f : Nat) (xs : List Rw) (t : Nat), Rw.Vdl w ns (f + 1) xs → Rw.trl xs + t ≤ 3 → okF w (f + 1) t (.tup (Rw.rl xs)) = true ∧ cntF (f + 1) (.tup (Rw.rl xs)) = Rw.ctl xs := by
  intro f
  induction f with
  | zero =>
    intro xs t hv ht
    have key : ∀ x ∈ xs, isRowR w x.r = true ∧ innR x.r = [] ∧ x.inn = [] := fun x hx => by
      have v := vdl_mem hv hx
      obtain ⟨r1, r2, _⟩ := row_yes hn v
      have e : x.inn = [] := by
        cases e : x.inn with
        | nil => rfl
        | cons p ps =>
          have := (inn_vd v p (by rw [e]; exact List.mem_cons_self)).1
          omega
      exact ⟨r1, by rw [r2, e]; rfl, e⟩
    constructor
    · show (decide (t ≤ 3) && ((Rw.rl xs).all (isRowR w) && (Rw.rl xs).all fun r => (innR r).all (okF w 0 (t + rndQ r)))) = true
      rw [decide_eq_true (by omega), rl_map, List.all_map, List.all_map, Bool.true_and, Bool.and_eq_true, List.all_eq_true, List.all_eq_true]
      exact ⟨fun x hx => (key x hx).1, fun x hx => by show (innR x.r).all _ = true; rw [(key x hx).2.1]; rfl⟩
    · show (Rw.rl xs).length + ((Rw.rl xs).map fun r => ((innR r).map (cntF 0)).sum).sum = Rw.ctl xs
      rw [rl_map, List.length_map, List.map_map]
      clear hv ht
      induction xs with
      | nil => rfl
      | cons x xs ih =>
        have ih2 := ih fun y hy => key y (List.mem_cons_of_mem _ hy)
        have kx := (key x List.mem_cons_self).2.1
        rw [List.map_cons, List.sum_cons, List.length_cons, Rw.ctl]
        have e1 : (((fun r => ((innR r).map (cntF 0)).sum) ∘ Rw.r) x) = 0 := by show ((innR x.r).map (cntF 0)).sum = 0; rw [kx]; rfl
        have e2 : x.ct = 1 := by
          have := inn_ct x
          have e3 : x.inn = [] := (key x List.mem_cons_self).2.2
          rw [e3] at this
          exact this
        rw [e1, e2]
        omega
  | succ f IH =>
    intro xs t hv ht
    have key : ∀ x ∈ xs, isRowR w x.r = true ∧ (innR x.r).all (okF w (f + 1) (t + rndQ x.r)) = true ∧ ((innR x.r).map (cntF (f + 1))).sum + 1 = x.ct := fun x hx => by
      have v := vdl_mem hv hx
      obtain ⟨r1, r2, r3⟩ := row_yes hn v
      have tx := trl_mem hx
      have sub : ∀ p ∈ x.inn, okF w (f + 1) (t + x.rnq) (.tup (Rw.rl p)) = true ∧ cntF (f + 1) (.tup (Rw.rl p)) = Rw.ctl p := fun p hp => by
        have tp := trl_rnq hp
        exact IH p (t + x.rnq) (inn_vd v p hp).2 (by omega)
      refine ⟨r1, ?_, ?_⟩
      · rw [r2, r3, List.all_map, List.all_eq_true]
        exact fun p hp => (sub p hp).1
      · rw [r2, List.map_map, inn_ct x]
        have : x.inn.map (cntF (f + 1) ∘ fun p => R.tup (Rw.rl p)) = x.inn.map Rw.ctl := List.map_congr_left fun p hp => (sub p hp).2
        rw [this]; omega
    constructor
    · show (decide (t ≤ 3) && ((Rw.rl xs).all (isRowR w) && (Rw.rl xs).all fun r => (innR r).all (okF w (f + 1) (t + rndQ r)))) = true
      rw [decide_eq_true (by omega), rl_map, List.all_map, List.all_map, Bool.true_and, Bool.and_eq_true, List.all_eq_true, List.all_eq_true]
      exact ⟨fun x hx => (key x hx).1, fun x hx => (key x hx).2.1⟩
    · show (Rw.rl xs).length + ((Rw.rl xs).map fun r => ((innR r).map (cntF (f + 1))).sum).sum = Rw.ctl xs
      rw [rl_map, List.length_map, List.map_map]
      clear hv ht
      induction xs with
      | nil => rfl
      | cons x xs ih =>
        have ih2 := ih fun y hy => key y (List.mem_cons_of_mem _ hy)
        have kx := (key x List.mem_cons_self).2.2
        rw [List.map_cons, List.sum_cons, List.length_cons, Rw.ctl]
        have e1 : (((fun r => ((innR r).map (cntF (f + 1))).sum) ∘ Rw.r) x) = ((innR x.r).map (cntF (f + 1))).sum := rfl
        rw [e1]
        omega
theorem prog_yes {w : Nat} {names ns : List Str} {xs : List Rw} (p : PfOk w names ns xs) : isProgR (progR w ns xs) = true := by
  obtain ⟨o1, o2⟩ := okF_yes p.nm 5 xs 0 p.vd (by have := p.tr; omega)
  show (decide ((1 : Int) ≤ (w : Int)) && (decide ((w : Int) ≤ 12) && (decide ((ns.map R.str).length ≤ 4) && ((ns.map R.str).all isNameR && isRowsR (w : Int).toNat (.tup (Rw.rl xs)))))) = true
  have w1 := p.w1
  have w2 := p.w2
  rw [decide_eq_true (by omega), decide_eq_true (by omega), decide_eq_true (by rw [List.length_map]; exact p.nl), Int.toNat_natCast]
  unfold isRowsR
  rw [o1, o2, decide_eq_true p.ct, List.all_map, show ns.all (isNameR ∘ R.str) = true from List.all_eq_true.mpr (fun s hs => nameY (p.nm s (p.sub s hs)))]
  rfl
mutual
def Rw.lkw : Rw → List Str → Int → Option Int
  | .iff _ p q, known, pl => (match Rw.lkl p known pl with
    | some r => some r
    | none => Rw.lkl q known (pl + (Rw.ctl p : Nat)))
  | .rnd _ p, known, pl => Rw.lkl p known pl
  | .set _ _, _, _ => none
  | .tell _, _, _ => none
def Rw.lkl : List Rw → List Str → Int → Option Int
  | [], _, _ => none
  | x :: xs, known, pl => if x.us.all (fun a => decide (a ∈ known)) = true then (match x.lkw known (pl + 1) with
    | some r => some r
    | none => Rw.lkl xs (x.th known) (pl + (x.ct : Nat))) else some pl
end
/-- through some ways -/
def lkW : List (List Rw) → List Str → Int → Option Int
  | [], _, _ => none
  | p :: ps, known, pl => match Rw.lkl p known pl with
    | some r => some r
    | none => lkW ps known (pl + (Rw.ctl p : Nat))
theorem lkw_inn (x : Rw) (known : List Str) (pl : Int) : x.lkw known pl = lkW x.inn known pl := by
  cases x with
  | set a e => rw [Rw.lkw]; rfl
  | tell a => rw [Rw.lkw]; rfl
  | iff a p q =>
    rw [Rw.lkw, Rw.inn, lkW]
    cases Rw.lkl p known pl with
    | some r => rfl
    | none =>
      show Rw.lkl q known _ = lkW [q] known _
      rw [lkW]
      cases Rw.lkl q known (pl + (Rw.ctl p : Nat)) <;> rfl
  | rnd k p =>
    rw [Rw.lkw, Rw.inn, lkW]
    cases Rw.lkl p known pl <;> rfl
def optI : Option Int → R
  | none => .non
  | some i => .int i
theorem drop_at {α : Type} {xs : List α} {i : Nat} {x : α} (h : xs[i]? = some x) : xs.drop i = x :: xs.drop (i + 1) := by
  obtain ⟨hi, e⟩ := List.getElem?_eq_some_iff.mp h
  rw [← e]
  exact List.drop_eq_getElem_cons hi
/-- what is wrong with a program that has the form -/
def wrongO (ns : List Str) (xs : List Rw) : Option (Int × Str) :=
  if ¬ ns.Nodup then some (-1, "name") else match Rw.lkl xs ns 0 with
    | some p => some (p, "name")
    | none => if 2000 < Rw.stl xs then some (-1, "long") else none
def wrongR : Option (Int × Str) → R
  | none => .non
  | some (p, t) => .tup [.int p, .str t]
end
section
variable {P : Program} {w : World} {K : PySem.W.Frag} {mg : Str → Option Value} {base : Heap}
theorem xp_shw {w : Nat} {ns : List Str} (w2 : w ≤ 12) (nm : ∀ s ∈ ns, NameOk s) {e : Xp} (h : XpOk w ns e) : e.r.shw = true ∧ e.r.cnt ≤ 5 ∧ e.r.dep ≤ 1 := by
  have st : ∀ s ∈ (["number", "copy", "up", "down", "pick", "add", "less", "and", "or", "unlike", "same", "below"] : List Str), (R.str s).shw = true := by decide +kernel
  have hn := fun a ha => str_shw (nm a (h.ns a ha))
  cases e with
  | num n =>
    have hl : n < 2 ^ 128 := Nat.lt_of_lt_of_le h.num (Nat.pow_le_pow_right (by decide) (by omega))
    refine ⟨?_, Nat.le_of_ble_eq_true rfl, Nat.le_of_ble_eq_true rfl⟩
    show ((R.str "number").shw && ((R.int (n : Int)).shw && true)) = true
    rw [st _ (by decide +kernel), int_shw hl]; rfl
  | cop a =>
    refine ⟨?_, Nat.le_of_ble_eq_true rfl, Nat.le_of_ble_eq_true rfl⟩
    show ((R.str "copy").shw && ((R.str a).shw && true)) = true
    rw [st _ (by decide +kernel), hn a List.mem_cons_self]; rfl
  | mov u a m =>
    have hm : m ≤ 1000 := h.ok
    refine ⟨?_, Nat.le_of_ble_eq_true rfl, Nat.le_of_ble_eq_true rfl⟩
    show ((R.str (mvw u)).shw && ((R.str a).shw && ((R.int (m : Int)).shw && true))) = true
    rw [hn a List.mem_cons_self, int_shw (Nat.lt_of_le_of_lt hm (by decide))]
    cases u <;> decide +kernel
  | pic a b c =>
    refine ⟨?_, Nat.le_of_ble_eq_true rfl, Nat.le_of_ble_eq_true rfl⟩
    show ((R.str "pick").shw && ((R.str a).shw && ((R.str b).shw && ((R.str c).shw && true)))) = true
    rw [st _ (by decide +kernel), hn a List.mem_cons_self, hn b (List.mem_cons_of_mem _ List.mem_cons_self), hn c (List.mem_cons_of_mem _ (List.mem_cons_of_mem _ List.mem_cons_self))]; rfl
  | par x a b =>
    have hx : ∀ x ∈ pairWords, (R.str x).shw = true := by decide +kernel
    refine ⟨?_, Nat.le_of_ble_eq_true rfl, Nat.le_of_ble_eq_true rfl⟩
    show ((R.str x).shw && ((R.str a).shw && ((R.str b).shw && true))) = true
    rw [hx x h.ok, hn a List.mem_cons_self, hn b (List.mem_cons_of_mem _ List.mem_cons_self)]; rfl
theorem rwW : (R.str "set").shw = true ∧ (R.str "tell").shw = true ∧ (R.str "if").shw = true ∧ (R.str "round").shw = true := by decide +kernel
mutual
theorem r_shw {w : Nat} {ns : List Str} (w2 : w ≤ 12) (nm : ∀ s ∈ ns, NameOk s) : ∀ (x : Rw) (d : Nat), Rw.Vd w ns d x → x.r.shw = true ∧ x.r.cnt ≤ 8 * x.ct ∧ x.r.dep ≤ 2 * d + 2
  | .set a e, d, v => by
    rw [Rw.Vd] at v
    obtain ⟨h1, h2, h3⟩ := xp_shw w2 nm v.2
    rw [Rw.r, Rw.ct]
    refine ⟨?_, ?_, ?_⟩
    · show ((R.str "set").shw && ((R.str a).shw && (e.r.shw && true))) = true
      rw [rwW.1, str_shw (nm a v.1), h1]; rfl
    · show 1 + (1 + (1 + (e.r.cnt + 0))) ≤ 8 * 1; omega
    · show 1 + max 0 (max 0 (max e.r.dep 0)) ≤ 2 * d + 2; omega
  | .tell a, d, v => by
    rw [Rw.Vd] at v
    rw [Rw.r, Rw.ct]
    refine ⟨?_, ?_, ?_⟩
    · show ((R.str "tell").shw && ((R.str a).shw && true)) = true
      rw [rwW.2.1, str_shw (nm a v)]; rfl
    · show 1 + (1 + (1 + 0)) ≤ 8 * 1; omega
    · show 1 + max 0 (max 0 0) ≤ 2 * d + 2; omega
  | .iff a p q, d, v => by
    rw [Rw.Vd] at v
    obtain ⟨g1, g2, g3⟩ := rl_shw w2 nm p (d - 1) v.2.2.1
    obtain ⟨h1, h2, h3⟩ := rl_shw w2 nm q (d - 1) v.2.2.2
    have d2 := v.2.1
    rw [Rw.r, Rw.ct]
    refine ⟨?_, ?_, ?_⟩
    · show ((R.str "if").shw && ((R.str a).shw && (R.shws (Rw.rl p) && (R.shws (Rw.rl q) && true)))) = true
      rw [rwW.2.2.1, str_shw (nm a v.1), g1, h1]; rfl
    · show 1 + (1 + (1 + ((1 + R.cnts (Rw.rl p)) + ((1 + R.cnts (Rw.rl q)) + 0)))) ≤ _; omega
    · show 1 + max 0 (max 0 (max (1 + R.deps (Rw.rl p)) (max (1 + R.deps (Rw.rl q)) 0))) ≤ 2 * d + 2; omega
  | .rnd n p, d, v => by
    rw [Rw.Vd] at v
    obtain ⟨g1, g2, g3⟩ := rl_shw w2 nm p (d - 1) v.2.2
    have d2 := v.2.1
    rw [Rw.r, Rw.ct]
    refine ⟨?_, ?_, ?_⟩
    · show ((R.str "round").shw && ((R.int (n : Int)).shw && (R.shws (Rw.rl p) && true))) = true
      rw [rwW.2.2.2, int_shw (Nat.lt_of_le_of_lt v.1 (by decide)), g1]; rfl
    · show 1 + (1 + (1 + ((1 + R.cnts (Rw.rl p)) + 0))) ≤ _; omega
    · show 1 + max 0 (max 0 (max (1 + R.deps (Rw.rl p)) 0)) ≤ 2 * d + 2; omega
theorem rl_shw {w : Nat} {ns : List Str} (w2 : w ≤ 12) (nm : ∀ s ∈ ns, NameOk s) : ∀ (xs : List Rw) (d : Nat), Rw.Vdl w ns d xs → R.shws (Rw.rl xs) = true ∧ R.cnts (Rw.rl xs) ≤ 8 * Rw.ctl xs ∧ R.deps (Rw.rl xs) ≤ 2 * d + 2
  | [], d, v => by rw [Rw.rl]; exact ⟨rfl, Nat.zero_le _, Nat.zero_le _⟩
  | x :: xs, d, v => by
    rw [Rw.Vdl] at v
    obtain ⟨g1, g2, g3⟩ := r_shw w2 nm x d v.1
    obtain ⟨h1, h2, h3⟩ := rl_shw w2 nm xs d v.2
    rw [Rw.rl, Rw.ctl]
    refine ⟨?_, ?_, ?_⟩
    · show (x.r.shw && R.shws (Rw.rl xs)) = true
      rw [g1, h1]; rfl
    · show x.r.cnt + R.cnts (Rw.rl xs) ≤ _; omega
    · show max x.r.dep (R.deps (Rw.rl xs)) ≤ _; omega
end
theorem strs_shw {ns : List Str} (nm : ∀ s ∈ ns, NameOk s) : R.shws (ns.map R.str) = true ∧ R.cnts (ns.map R.str) = ns.length ∧ R.deps (ns.map R.str) = 0 := by
  induction ns with
  | nil => exact ⟨rfl, rfl, rfl⟩
  | cons n ns ih =>
    obtain ⟨h1, h2, h3⟩ := ih fun s hs => nm s (List.mem_cons_of_mem _ hs)
    refine ⟨?_, ?_, ?_⟩
    · show ((R.str n).shw && R.shws (ns.map R.str)) = true
      rw [str_shw (nm n List.mem_cons_self), h1]; rfl
    · show 1 + R.cnts (ns.map R.str) = ns.length + 1; omega
    · show max 0 (R.deps (ns.map R.str)) = 0; omega
theorem prog_shw {w : Nat} {names ns : List Str} {xs : List Rw} (p : PgOk w names ns xs) : (progR w ns xs).shw = true ∧ (progR w ns xs).cnt ≤ 500 ∧ (progR w ns xs).dep ≤ 20 := by
  obtain ⟨g1, g2, g3⟩ := rl_shw p.w2 p.nm xs 6 p.vd
  obtain ⟨h1, h2, h3⟩ := strs_shw (ns := ns) fun s hs => p.nm s (p.sub s hs)
  have hc := p.ct
  have hl := p.nl
  have hw : w < 2 ^ 128 := Nat.lt_of_le_of_lt p.w2 (by decide)
  refine ⟨?_, ?_, ?_⟩
  · show ((R.int (w : Int)).shw && (R.shws (ns.map R.str) && (R.shws (Rw.rl xs) && true))) = true
    rw [int_shw hw, h1, g1]; rfl
  · show 1 + (1 + ((1 + R.cnts (ns.map R.str)) + ((1 + R.cnts (Rw.rl xs)) + 0))) ≤ 500
    omega
  · show 1 + max 0 (max (1 + R.deps (ns.map R.str)) (max (1 + R.deps (Rw.rl xs)) 0)) ≤ 20
    omega
end
section
variable {P : Program} {w : World} {K : PySem.W.Frag} {mg : Str → Option Value} {base : Heap}
theorem dtW {k : Nat} {s : Str} (h : (decide (s.length ≤ 1000) && PyData.strOk s) = true) : Dt k (.str s) := by
  rw [Bool.and_eq_true] at h
  exact .str k (of_decide_eq_true h.1) h.2
theorem dtN {k : Nat} {s : Str} (h : NameOk s) : Dt k (.str s) := .str k (by have := h.hi; omega) (nameStr h)
theorem wdOk : (∀ s ∈ (["set", "tell", "if", "round", "number", "copy", "up", "down", "pick", "add", "less", "and", "or", "unlike", "same", "below"] : List Str), (decide (s.length ≤ 1000) && PyData.strOk s) = true) ∧ ∀ u, (decide ((mvw u).length ≤ 1000) && PyData.strOk (mvw u)) = true := by decide +kernel
theorem pairIn : ∀ x ∈ pairWords, x ∈ (["set", "tell", "if", "round", "number", "copy", "up", "down", "pick", "add", "less", "and", "or", "unlike", "same", "below"] : List Str) := by decide +kernel
theorem Dt.all1 {k : Nat} {rs : List R} (hl : Nat.ble rs.length 1000 = true) (h : ∀ r ∈ rs, Dt k r) : Dt (k + 1) (.tup rs) := .tup (Nat.le_of_ble_eq_true hl) h
theorem xp_dt {w : Nat} {ns : List Str} (nm : ∀ s ∈ ns, NameOk s) {e : Xp} (h : XpOk w ns e) : Dt 1 e.r := by
  have hn := fun a ha => dtN (k := 0) (nm a (h.ns a ha))
  cases e with
  | num n =>
      refine Dt.all1 rfl fun r hr => ?_
      simp only [List.mem_cons, List.not_mem_nil, or_false] at hr
      rcases hr with rfl | rfl
      · exact dtW (wdOk.1 _ (by decide +kernel))
      · exact .int _ _
  | cop a =>
      refine Dt.all1 rfl fun r hr => ?_
      simp only [List.mem_cons, List.not_mem_nil, or_false] at hr
      rcases hr with rfl | rfl
      · exact dtW (wdOk.1 _ (by decide +kernel))
      · exact hn a List.mem_cons_self
  | mov u a m =>
      refine Dt.all1 rfl fun r hr => ?_
      simp only [List.mem_cons, List.not_mem_nil, or_false] at hr
      rcases hr with rfl | rfl | rfl
      · exact dtW (wdOk.2 u)
      · exact hn a List.mem_cons_self
      · exact .int _ _
  | pic a b c =>
      refine Dt.all1 rfl fun r hr => ?_
      simp only [List.mem_cons, List.not_mem_nil, or_false] at hr
      rcases hr with rfl | rfl | rfl | rfl
      · exact dtW (wdOk.1 _ (by decide +kernel))
      · exact hn a (by simp [Xp.names])
      · exact hn b (by simp [Xp.names])
      · exact hn c (by simp [Xp.names])
  | par x a b =>
      refine Dt.all1 rfl fun r hr => ?_
      simp only [List.mem_cons, List.not_mem_nil, or_false] at hr
      rcases hr with rfl | rfl | rfl
      · exact dtW (wdOk.1 _ (pairIn x h.ok))
      · exact hn a (by simp [Xp.names])
      · exact hn b (by simp [Xp.names])
mutual
theorem r_dt {w : Nat} {ns : List Str} (nm : ∀ s ∈ ns, NameOk s) : ∀ (x : Rw) (d : Nat), Rw.Vd w ns d x → x.ct ≤ 1000 → Dt (2 * d + 2) x.r
  | .set a e, d, v, hc => by
    rw [Rw.Vd] at v
    rw [Rw.r]
    refine Dt.all1 rfl fun r hr => ?_
    simp only [List.mem_cons, List.not_mem_nil, or_false] at hr
    rcases hr with rfl | rfl | rfl
    · exact dtW (wdOk.1 _ (by decide +kernel))
    · exact dtN (nm a v.1)
    · exact (xp_dt nm v.2).mono (by omega)
  | .tell a, d, v, hc => by
    rw [Rw.Vd] at v
    rw [Rw.r]
    refine Dt.all1 rfl fun r hr => ?_
    simp only [List.mem_cons, List.not_mem_nil, or_false] at hr
    rcases hr with rfl | rfl
    · exact dtW (wdOk.1 _ (by decide +kernel))
    · exact dtN (nm a v)
  | .iff a p q, d, v, hc => by
    rw [Rw.Vd] at v
    rw [Rw.ct] at hc
    rw [Rw.r]
    have d2 := v.2.1
    have hp := rl_dt nm p (d - 1) v.2.2.1 (by omega)
    have hq := rl_dt nm q (d - 1) v.2.2.2 (by omega)
    refine Dt.all1 rfl fun r hr => ?_
    simp only [List.mem_cons, List.not_mem_nil, or_false] at hr
    rcases hr with rfl | rfl | rfl | rfl
    · exact dtW (wdOk.1 _ (by decide +kernel))
    · exact dtN (nm a v.1)
    · exact (Dt.tup hp.1 hp.2).mono (by omega)
    · exact (Dt.tup hq.1 hq.2).mono (by omega)
  | .rnd n p, d, v, hc => by
    rw [Rw.Vd] at v
    rw [Rw.ct] at hc
    rw [Rw.r]
    have d2 := v.2.1
    have hp := rl_dt nm p (d - 1) v.2.2 (by omega)
    refine Dt.all1 rfl fun r hr => ?_
    simp only [List.mem_cons, List.not_mem_nil, or_false] at hr
    rcases hr with rfl | rfl | rfl
    · exact dtW (wdOk.1 _ (by decide +kernel))
    · exact .int _ _
    · exact (Dt.tup hp.1 hp.2).mono (by omega)
theorem rl_dt {w : Nat} {ns : List Str} (nm : ∀ s ∈ ns, NameOk s) : ∀ (xs : List Rw) (d : Nat), Rw.Vdl w ns d xs → Rw.ctl xs ≤ 1000 → (Rw.rl xs).length ≤ 1000 ∧ ∀ r ∈ Rw.rl xs, Dt (2 * d + 2) r
  | [], d, v, hc => ⟨Nat.zero_le _, fun r hr => by rw [Rw.rl] at hr; cases hr⟩
  | x :: xs, d, v, hc => by
    rw [Rw.Vdl] at v
    rw [Rw.ctl] at hc
    have hx := r_dt nm x d v.1 (by omega)
    have h2 := rl_dt nm xs d v.2 (by omega)
    have c1 : 1 ≤ x.ct := by rw [inn_ct]; omega
    have c2 : (Rw.rl xs).length ≤ Rw.ctl xs := by rw [← all_len]; clear hx h2 v hc c1; induction xs with
      | nil => exact Nat.zero_le _
      | cons y ys ih =>
        rw [Rw.rl, Rw.all, List.length_cons, List.length_append]
        have : 1 ≤ y.al.length := by rw [al_len, inn_ct]; omega
        omega
    rw [Rw.rl]
    refine ⟨by rw [List.length_cons]; omega, fun r hr => ?_⟩
    rcases List.mem_cons.mp hr with rfl | hr
    · exact hx
    · exact h2.2 r hr
end
theorem prog_dt {w : Nat} {names ns : List Str} {xs : List Rw} (p : PfOk w names ns xs) : Dt 31 (progR w ns xs) ∧ (progR w ns xs).cnt ≤ 10000 ∧ (progR w ns xs).shw = true ∧ (progR w ns xs).dep ≤ 40 := by
  have hc := p.ct
  have hl := p.nl
  have rd := rl_dt p.nm xs 6 p.vd (by omega)
  have nd : Dt 15 (.tup (ns.map R.str)) := .tup (by rw [List.length_map]; omega) fun r hr => by
    obtain ⟨s, hs, rfl⟩ := List.mem_map.mp hr
    exact dtN (p.nm s (p.sub s hs))
  obtain ⟨g1, g2, g3⟩ := rl_shw p.w2 p.nm xs 6 p.vd
  have s1 : ∀ (l : List Str), (∀ s ∈ l, NameOk s) → R.shws (l.map R.str) = true ∧ R.cnts (l.map R.str) = l.length ∧ R.deps (l.map R.str) = 0 := by
    intro l hl
    induction l with
    | nil => exact ⟨rfl, rfl, rfl⟩
    | cons a t ih =>
      obtain ⟨i1, i2, i3⟩ := ih fun s hs => hl s (List.mem_cons_of_mem _ hs)
      refine ⟨?_, ?_, ?_⟩
      · show ((R.str a).shw && R.shws (t.map R.str)) = true
        rw [str_shw (hl a List.mem_cons_self), i1]; rfl
      · show 1 + R.cnts (t.map R.str) = t.length + 1
        rw [i2, Nat.add_comm]
      · show max 0 (R.deps (t.map R.str)) = 0
        rw [i3]; rfl
  obtain ⟨n1, n2, n3⟩ := s1 ns fun s hs => p.nm s (p.sub s hs)
  have w2 := p.w2
  refine ⟨(Dt.all1 (k := 15) rfl fun r hr => ?_).mono (by omega), ?_, ?_, ?_⟩
  · simp only [List.mem_cons, List.not_mem_nil, or_false] at hr
    rcases hr with rfl | rfl | rfl
    · exact .int _ _
    · exact nd
    · exact .tup rd.1 rd.2
  · show 1 + (1 + ((1 + R.cnts (ns.map R.str)) + ((1 + R.cnts (Rw.rl xs)) + 0))) ≤ 10000
    omega
  · show ((R.int (w : Int)).shw && (R.shws (ns.map R.str) && (R.shws (Rw.rl xs) && true))) = true
    rw [int_shw (Nat.lt_of_le_of_lt w2 (by decide)), n1, g1]; rfl
  · show 1 + max 0 (max (1 + R.deps (ns.map R.str)) (max (1 + R.deps (Rw.rl xs)) 0)) ≤ 40
    omega
end
section
variable {P : Program} {w : World} {K : PySem.W.Frag} {mg : Str → Option Value} {base : Heap}
def spFormG : DSp := fun rs M Q _ => ∃ (k w : Nat) (r : R), rs = [r, .int (w : Int)] ∧ Dt k r ∧ w ≤ 12 ∧ ∀ M', Sub M M' → Q (.bl (isRowR w r)) M'
theorem ok_has_form (T : Txt w K mg) : DFn P w K mg base 3 (He.ga K "has_form") T.d_has_form ["thing", "wide"] (spFormG) := by
  refine dfn_of T.F_has_form sc_has_form (fun cdv A outer s H E hr tk hp => ⟨_, (dss_cons (ds_if (DW.dt (dw_or (dt_not (dt_val (de_callB call_isi sc_isi T.n_isinstance (da_cons (de_var 0) (da_cons (de_ty .tup T.n_tuple) da_nil))))) (dw_or (dt_cmp op_ltU sim_lt (de_callB call_lenU sc_len T.n_len (da_cons (de_var 0) da_nil)) de_int) (dw_or1 (dt_not (dt_val (de_callB call_isi sc_isi T.n_isinstance (da_cons (de_ix (de_var 0) de_int) (da_cons (de_ty .str T.n_str) da_nil))))))))) (dss_cons (ds_ret de_bl)
    dss_nil) dss_nil)
    (dss_cons (ds_if (dt_cmp (op_eqU hr.hu) sim_eq (de_ix (de_var 0) de_int) de_str) (dss_cons (ds_ret (de_and (de_cmp (op_eqU hr.hu) sim_eq (de_callB call_lenU sc_len T.n_len (da_cons (de_var 0) da_nil)) de_int) (de_and (de_call (ok_is_name T) (hr.mono (by decide)) T.g_is_name T.F_is_name.kp (b_is_name T) tk (da_cons (de_ix (de_var 0) de_int) da_nil)) (de_one (de_call (ok_is_expr T) (hr.mono (by decide)) T.g_is_expr T.F_is_expr.kp (b_is_expr T) tk (da_cons (de_ix (de_var 0) de_int) (da_cons (de_var 1) da_nil)))))))
    dss_nil) dss_nil)
    (dss_cons (ds_if (dt_cmp (op_eqU hr.hu) sim_eq (de_ix (de_var 0) de_int) de_str) (dss_cons (ds_ret (de_and (de_cmp (op_eqU hr.hu) sim_eq (de_callB call_lenU sc_len T.n_len (da_cons (de_var 0) da_nil)) de_int) (de_one (de_call (ok_is_name T) (hr.mono (by decide)) T.g_is_name T.F_is_name.kp (b_is_name T) tk (da_cons (de_ix (de_var 0) de_int) da_nil)))))
    dss_nil) dss_nil)
    (dss_cons (ds_if (dt_cmp (op_eqU hr.hu) sim_eq (de_ix (de_var 0) de_int) de_str) (dss_cons (ds_ret (de_and (de_cmp (op_eqU hr.hu) sim_eq (de_callB call_lenU sc_len T.n_len (da_cons (de_var 0) da_nil)) de_int) (de_one (de_call (ok_is_name T) (hr.mono (by decide)) T.g_is_name T.F_is_name.kp (b_is_name T) tk (da_cons (de_ix (de_var 0) de_int) da_nil)))))
    dss_nil) dss_nil)
    (dss_cons (ds_ret (de_and (de_cmp (op_eqU hr.hu) sim_eq (de_ix (de_var 0) de_int) de_str) (de_and (de_cmp (op_eqU hr.hu) sim_eq (de_callB call_lenU sc_len T.n_len (da_cons (de_var 0) da_nil)) de_int) (de_one (de_call (ok_is_whole T) (hr.mono (by decide)) T.g_is_whole T.F_is_whole.kp (b_is_whole T) tk (da_cons (de_ix (de_var 0) de_int) (da_cons de_int (da_cons (de_gint T.c_MOST_ROUNDS) da_nil))))))))
    dss_nil))))), fun rs M Q xw h hl => ?_⟩)
  have sl : sizeLine = 16777216 := by decide
  obtain ⟨k, w, r, rfl, hd, w2, hQ⟩ := h
  have nn : Ty.tup ≠ .non := fun z => by cases z
  have ns : Ty.str ≠ .non := fun z => by cases z
  cases r with
  | tup rs =>
    have hl2 := hd.len
    cases hd with
    | tup _ hk =>
    match rs, hl2, hk, hQ with
    | [], _, _, hQ => exact ⟨⟨noT rfl, fun _ => ⟨fun _ => ⟨fun _ => ⟨_, Sub.rfl', hQ _ Sub.rfl'⟩, tn⟩, noF rfl⟩⟩, nn⟩
    | [x], _, _, hQ =>
      have e : isRowR w (.tup [x]) = false := by unfold isRowR; rw [hd_none (by show 1 < 2; decide)]
      rw [e] at hQ
      exact ⟨⟨noT rfl, fun _ => ⟨fun _ => ⟨fun _ => ⟨_, Sub.rfl', hQ _ Sub.rfl'⟩, tn⟩, noF rfl⟩⟩, nn⟩
    | x :: y :: tl, hl2, hk, hQ =>
      have h2 : ¬ ((((x :: y :: tl).length : Nat) : Int) < 2) := by rw [List.length_cons, List.length_cons]; omega
      have dx := hk x List.mem_cons_self
      have hy := hk y (List.mem_cons_of_mem _ List.mem_cons_self)
      refine ⟨⟨noT rfl, fun _ => ⟨fun z => absurd (of_decide_eq_true z) h2, fun _ => ⟨x, at0, ?_⟩⟩⟩, nn⟩
      cases dx with
      | @str _ t h3 h4 =>
        have e : isRowR w (.tup (.str t :: y :: tl)) = rowB w t (y :: tl) := rfl
        rw [e] at hQ
        unfold rowB at hQ
        refine ⟨⟨noT rfl, fun _ => ⟨.str t, at0, fun z1 => ?_, fun z1 => ?_⟩⟩, ns⟩
        · rw [if_pos (of_decide_eq_true z1)] at hQ
          refine ⟨fun z2 => ?_, fun z2 => ?_⟩
          · have e2 : (y :: tl).length = 2 := by have := of_decide_eq_true z2; rw [List.length_cons] at this; omega
            rw [decide_eq_true e2, Bool.true_and, nth0] at hQ
            obtain ⟨u, rfl⟩ : ∃ u, tl = [u] := by
              match tl, e2 with
              | [u], _ => exact ⟨u, rfl⟩
            refine ⟨y, at1, _, y, rfl, hy, fun z4 => ?_, fun z4 => ?_⟩
            · have z4' : isNameR y = true := z4
              rw [z4', Bool.true_and] at hQ
              exact ⟨u, at2, _, w, u, rfl, hk u (by simp), w2, fun M' s => ⟨_, Sub.rfl', hQ _ s⟩⟩
            · have z4' : isNameR y = false := z4
              rw [z4', Bool.false_and] at hQ
              exact ⟨_, Sub.rfl', hQ _ Sub.rfl'⟩
          · have e2 : ¬ (y :: tl).length = 2 := fun q => of_decide_eq_false z2 (by rw [List.length_cons, q]; rfl)
            rw [decide_eq_false e2, Bool.false_and] at hQ
            exact ⟨_, Sub.rfl', hQ _ Sub.rfl'⟩
        rw [if_neg (of_decide_eq_false z1)] at hQ
        refine ⟨.str t, at0, fun z2 => ?_, fun z2 => ?_⟩
        · rw [if_pos (of_decide_eq_true z2)] at hQ
          refine ⟨fun z3 => ?_, fun z3 => ?_⟩
          · have e2 : (y :: tl).length = 1 := by have := of_decide_eq_true z3; rw [List.length_cons] at this; omega
            rw [decide_eq_true e2, Bool.true_and, nth0] at hQ
            exact ⟨y, at1, _, y, rfl, hy, _, Sub.rfl', hQ _ Sub.rfl'⟩
          · have e2 : ¬ (y :: tl).length = 1 := fun q => of_decide_eq_false z3 (by rw [List.length_cons, q]; rfl)
            rw [decide_eq_false e2, Bool.false_and] at hQ
            exact ⟨_, Sub.rfl', hQ _ Sub.rfl'⟩
        rw [if_neg (of_decide_eq_false z2)] at hQ
        refine ⟨.str t, at0, fun z3 => ?_, fun z3 => ?_⟩
        · rw [if_pos (of_decide_eq_true z3)] at hQ
          refine ⟨fun z4 => ?_, fun z4 => ?_⟩
          · have e2 : (y :: tl).length = 3 := by have := of_decide_eq_true z4; rw [List.length_cons] at this; omega
            rw [decide_eq_true e2, Bool.true_and, nth0] at hQ
            exact ⟨y, at1, _, y, rfl, hy, _, Sub.rfl', hQ _ Sub.rfl'⟩
          · have e2 : ¬ (y :: tl).length = 3 := fun q => of_decide_eq_false z4 (by rw [List.length_cons, q]; rfl)
            rw [decide_eq_false e2, Bool.false_and] at hQ
            exact ⟨_, Sub.rfl', hQ _ Sub.rfl'⟩
        rw [if_neg (of_decide_eq_false z3)] at hQ
        refine ⟨.str t, at0, fun z4 => ?_, fun z4 => ?_⟩
        · rw [decide_eq_true (of_decide_eq_true z4), Bool.true_and] at hQ
          refine ⟨fun z5 => ?_, fun z5 => ?_⟩
          · have e2 : (y :: tl).length = 2 := by have := of_decide_eq_true z5; rw [List.length_cons] at this; omega
            rw [decide_eq_true e2, Bool.true_and, nth0] at hQ
            exact ⟨y, at1, y, 0, 12, rfl, hy.kind, _, Sub.rfl', hQ _ Sub.rfl'⟩
          · have e2 : ¬ (y :: tl).length = 2 := fun q => of_decide_eq_false z5 (by rw [List.length_cons, q]; rfl)
            rw [decide_eq_false e2, Bool.false_and] at hQ
            exact ⟨_, Sub.rfl', hQ _ Sub.rfl'⟩
        · rw [decide_eq_false (of_decide_eq_false z4), Bool.false_and] at hQ
          exact ⟨_, Sub.rfl', hQ _ Sub.rfl'⟩
      | _ =>
        have hQ : ∀ M', Sub M M' → Q (.bl false) M' := hQ
        exact ⟨⟨fun _ => ⟨_, Sub.rfl', hQ _ Sub.rfl'⟩, noF rfl⟩, ns⟩
  | _ => cases hd <;> exact ⟨⟨fun _ => ⟨fun _ => ⟨_, Sub.rfl', hQ _ Sub.rfl'⟩, tn⟩, tn⟩, nn⟩
end
section
variable {P : Program} {w : World} {K : PySem.W.Frag} {mg : Str → Option Value} {base : Heap}
abbrev Stg := R × Nat × Nat
def stgR (p : Stg) : R := .tup [p.1, .int (7 - (p.2.1 : Int)), .int (p.2.2 : Int)]
def okS (w : Nat) (ps : List Stg) : Bool := ps.all fun p => okF w p.2.1 p.2.2 p.1
def cntS (ps : List Stg) : Nat := (ps.map fun p => cntF p.2.1 p.1).sum
def szS (ps : List Stg) : Nat := (ps.map fun p => p.1.cnt).sum
def inSg (f tu : Nat) (r : R) : List Stg := (innR r).map fun q => (q, f - 1, tu + rndQ r)
theorem okS_app {w : Nat} (ps qs : List Stg) : okS w (ps ++ qs) = (okS w ps && okS w qs) := List.all_append
theorem cntS_app (ps qs : List Stg) : cntS (ps ++ qs) = cntS ps + cntS qs := by unfold cntS; rw [List.map_append, List.sum_append]
theorem szS_app (ps qs : List Stg) : szS (ps ++ qs) = szS ps + szS qs := by unfold szS; rw [List.map_append, List.sum_append]
theorem cnt_pos (r : R) : 1 ≤ r.cnt := by cases r <;> simp [R.cnt]
theorem szS_len : ∀ ps : List Stg, ps.length ≤ szS ps
  | [] => Nat.le_refl _
  | p :: ps => by
    have := szS_len ps
    have := cnt_pos p.1
    show ps.length + 1 ≤ szS ([p] ++ ps)
    rw [szS_app]
    have : szS [p] = p.1.cnt := by simp [szS]
    omega
theorem inn_cnt {w : Nat} {r : R} (h : isRowR w r = true) (f tu : Nat) : szS (inSg f tu r) + 1 ≤ r.cnt ∧ (inSg f tu r).length ≤ 2 := by
  obtain ⟨t, y, tl, rfl, e, h1, h2, _⟩ := row_cases h
  have c0 : (R.tup (.str t :: y :: tl)).cnt = 1 + (1 + (y.cnt + R.cnts tl)) := rfl
  unfold inSg
  rw [e]
  by_cases z1 : t = "if"
  · obtain ⟨a, b, rfl⟩ := h1 z1
    rw [if_pos z1]
    have : R.cnts [a, b] = a.cnt + (b.cnt + 0) := rfl
    refine ⟨?_, by simp⟩
    show a.cnt + (b.cnt + 0) + 1 ≤ _
    omega
  · rw [if_neg z1]
    by_cases z2 : t = "round"
    · obtain ⟨a, rfl⟩ := h2 z1 z2
      rw [if_pos z2]
      have : R.cnts [a] = a.cnt + 0 := rfl
      refine ⟨?_, by simp⟩
      show a.cnt + 0 + 1 ≤ _
      omega
    · rw [if_neg z2]
      exact ⟨by show 0 + 1 ≤ _; omega, by simp⟩
theorem ins_cnt {w : Nat} (f tu : Nat) : ∀ rows : List R, rows.all (isRowR w) = true → szS ((rows.map (inSg f tu)).flatten) + rows.length ≤ R.cnts rows ∧ ((rows.map (inSg f tu)).flatten).length ≤ 2 * rows.length
  | [], _ => ⟨Nat.le_refl _, Nat.le_refl _⟩
  | r :: rows, h => by
    rw [List.all_cons, Bool.and_eq_true] at h
    have h1 := inn_cnt h.1 f tu
    have h2 := ins_cnt f tu rows h.2
    have c : R.cnts (r :: rows) = r.cnt + R.cnts rows := rfl
    rw [List.map_cons, List.flatten_cons, szS_app, List.length_cons, List.length_append]
    omega
theorem step_ok (w f tu : Nat) : ∀ rows : List R, okS w ((rows.map (inSg (f + 1) tu)).flatten) = rows.all fun r => (innR r).all (okF w f (tu + rndQ r))
  | [] => rfl
  | r :: rows => by
    rw [List.map_cons, List.flatten_cons, okS_app, step_ok w f tu rows, List.all_cons]
    congr 1
    unfold okS inSg
    rw [List.all_map]
    rfl
theorem step_cnt (f tu : Nat) : ∀ rows : List R, cntS ((rows.map (inSg (f + 1) tu)).flatten) = (rows.map fun r => ((innR r).map (cntF f)).sum).sum
  | [] => rfl
  | r :: rows => by
    rw [List.map_cons, List.flatten_cons, cntS_app, step_cnt f tu rows, List.map_cons, List.sum_cons]
    congr 1
    unfold cntS inSg
    rw [List.map_map]
    rfl
theorem stepS {w f tu : Nat} {rows : List R} (h0 : f = 0 → rows = []) (ht : tu ≤ 3) (hf : rows.all (isRowR w) = true) :
    okF w f tu (.tup rows) = okS w ((rows.map (inSg f tu)).flatten) ∧ cntF f (.tup rows) = rows.length + cntS ((rows.map (inSg f tu)).flatten) := by
  cases f with
  | zero =>
    rw [h0 rfl]
    exact ⟨by show (true && decide (tu ≤ 3)) = true; rw [decide_eq_true ht]; rfl, rfl⟩
  | succ f =>
    constructor
    · show (decide (tu ≤ 3) && (rows.all (isRowR w) && rows.all fun r => (innR r).all (okF w f (tu + rndQ r)))) = _
      rw [decide_eq_true ht, hf, step_ok]; rfl
    · show rows.length + _ = _
      rw [step_cnt]
theorem okF_form {w f tu : Nat} {rows : List R} (h : okF w f tu (.tup rows) = true) (h0 : f = 0 → rows = []) : tu ≤ 3 ∧ rows.all (isRowR w) = true := by
  cases f with
  | zero =>
    rw [h0 rfl] at h ⊢
    have h' : (true && decide (tu ≤ 3)) = true := h
    rw [Bool.true_and] at h'
    exact ⟨of_decide_eq_true h', rfl⟩
  | succ f =>
    have h' : (decide (tu ≤ 3) && (rows.all (isRowR w) && rows.all fun r => (innR r).all (okF w f (tu + rndQ r)))) = true := h
    rw [Bool.and_eq_true, Bool.and_eq_true] at h'
    exact ⟨of_decide_eq_true h'.1, h'.2.1⟩
theorem cntF_le {f : Nat} {rows : List R} (h0 : f = 0 → rows = []) : rows.length ≤ cntF f (.tup rows) := by
  cases f with
  | zero => rw [h0 rfl]; exact Nat.zero_le _
  | succ f => show rows.length ≤ rows.length + _; omega
theorem tup_py {rs : List R} {d : PyData} (e : (R.tup rs).py = some d) : ∃ ds, R.pys rs = some ds ∧ d = .tuple ds := by
  rw [R.py] at e
  obtain ⟨ds, e1, e2⟩ := Option.map_eq_some_iff.mp e
  exact ⟨ds, e1, e2.symm⟩
theorem pys_len : ∀ {rs : List R} {ds : List PyData}, R.pys rs = some ds → ds.length = rs.length
  | [], _, e => by cases e; rfl
  | r :: rs, ds, e => by
    rw [R.pys] at e
    cases e1 : r.py with
    | none => rw [e1] at e; cases e
    | some d =>
      cases e2 : R.pys rs with
      | none => rw [e1, e2] at e; cases e
      | some ds2 =>
        rw [e1, e2] at e
        cases e
        rw [List.length_cons, List.length_cons, pys_len e2]
theorem eqvTNil {ds : List PyData} : PyData.eqv (.tuple ds) (.tuple []) = ds.isEmpty := by
  cases ds <;> simp [PyData.eqv, PyData.eqvAll]
structure StgOk (p : Stg) : Prop where
  dt : Dt 30 p.1
  f6 : p.2.1 ≤ 6
theorem inSg_ok {w f tu : Nat} {rows : List R} (hd : Dt 30 (.tup rows)) (hf : rows.all (isRowR w) = true) (f6 : f ≤ 6) : ∀ p ∈ (rows.map (inSg f tu)).flatten, StgOk p := by
  intro p hp
  obtain ⟨l, hl, hp⟩ := List.mem_flatten.mp hp
  obtain ⟨r, hr, rfl⟩ := List.mem_map.mp hl
  obtain ⟨q, hq, rfl⟩ := List.mem_map.mp hp
  refine ⟨?_, by show f - 1 ≤ 6; omega⟩
  obtain ⟨t, y, tl, rfl, e, h1, h2, _⟩ := row_cases (List.all_eq_true.mp hf r hr)
  have d1 : Dt 29 (.tup (.str t :: y :: tl)) := hd.mem hr
  have d2 : ∀ x ∈ tl, Dt 30 x := fun x hx => (Dt.mem (k := 28) d1 (List.mem_cons_of_mem _ (List.mem_cons_of_mem _ hx))).mono (by omega)
  rw [e] at hq
  by_cases z1 : t = "if"
  · obtain ⟨a, b, rfl⟩ := h1 z1
    rw [if_pos z1] at hq
    have hq' : q ∈ [a, b] := hq
    exact d2 q hq'
  · rw [if_neg z1] at hq
    by_cases z2 : t = "round"
    · obtain ⟨a, rfl⟩ := h2 z1 z2
      rw [if_pos z2] at hq
      have hq' : q ∈ [a] := hq
      exact d2 q hq'
    · rw [if_neg z2] at hq; cases hq
theorem stg_next {q : R} {f tu : Nat} {n : Int} (h : 1 ≤ f) (hn : n = (tu : Int)) : R.tup [q, .int (7 - (f : Int) + 1), .int n] = stgR (q, f - 1, tu) := by
  unfold stgR
  rw [hn]
  have : (7 : Int) - (f : Int) + 1 = 7 - ((f - 1 : Nat) : Int) := by omega
  rw [this]
def spRowsG : DSp := fun rs M Q _ => ∃ (w : Nat) (r : R), rs = [r, .int (w : Int)] ∧ Dt 30 r ∧ r.cnt ≤ 10000 ∧ w ≤ 12 ∧ ∀ M', Sub M M' → Q (.bl (isRowsR w r)) M'
theorem ok_are_rows (T : Txt w K mg) : DFn P w K mg base 4 (He.ga K "are_rows") T.d_are_rows ["thing", "wide"] (spRowsG) := by
  refine dfn_of T.F_are_rows sc_are_rows (fun cdv A outer s H E hr tk hp => ⟨_, (dss_cons (ds_set 2 sc_are_rows.nd de_int)
    (dss_cons (ds_set 3 sc_are_rows.nd (de_lstO (da_cons (de_tup (da_cons (de_var 0) (da_cons de_int (da_cons de_int da_nil)))) da_nil)))
    (dss_cons (ds_while hp (dt_cmp (op_neU hr.hu) sim_ne (de_var 3) (de_lst da_nil)) (dss_cons (ds_asg (de_pop (de_var 3)) (dg_tup rfl (dgs_cons (dg_name 4 sc_are_rows.nd) (dgs_cons (dg_name 5 sc_are_rows.nd) (dgs_cons (dg_name 6 sc_are_rows.nd) dgs_nil)))))
    (dss_cons (ds_if (DW.dt (dw_or (dt_not (dt_val (de_callB call_isi sc_isi T.n_isinstance (da_cons (de_var 4) (da_cons (de_ty .tup T.n_tuple) da_nil))))) (dw_or (DW.dt (dw_and (dt_cmp op_gt sim_B0 (de_var 5) (de_gint T.c_MOST_DEEP)) (dw_and1 (dt_cmp (op_neU hr.hu) sim_ne (de_var 4) (de_tup da_nil))))) (dw_or1 (dt_cmp op_gt sim_B0 (de_var 6) (de_gint T.c_MOST_TURNED)))))) (dss_cons (ds_ret de_bl)
    dss_nil) dss_nil)
    (dss_cons (ds_set 2 sc_are_rows.nd (de_op op_addU sim_add (de_var 2) (de_callB call_lenU sc_len T.n_len (da_cons (de_var 4) da_nil))))
    (dss_cons (ds_if (DW.dt (dw_or (dt_cmp op_gt sim_B0 (de_var 2) (de_gint T.c_MOST_ROWS)) (dw_or1 (dt_not (dt_val (de_callB (cr_all rfl) sc_all T.n_all (da_cons (de_lc (own := [("row", 7)]) rfl sc_are_rows.nd (di_tup (de_var 4)) (blkOk_by (by show blkC ["thing", "wide", "many", "waiting", "rows", "deep", "turned", "row", "more", "way"] (defScope s_are_rows) _ _ = true; decide +kernel)) (simc1 (by decide)) (fun _ _ _ _ _ => (pg_name (i := 7) sc_are_rows.nd rfl (Or.inl rfl))) (fun _ _ _ _ _ => dts_nil) (fun _ _ _ _ _ => (de_call (ok_has_form T) (hr.mono (by decide)) T.g_has_form T.F_has_form.kp (b_has_form T) takes0 (da_cons (de_var 7) (da_cons (de_var 1) da_nil))))) da_nil))))))) (dss_cons (ds_ret de_bl)
    dss_nil) dss_nil)
    (dss_cons (ds_for hp rfl (di_tup (de_var 4)) (dg_name 7 sc_are_rows.nd) (dss_cons (ds_set 8 sc_are_rows.nd (de_op op_addU sim_add (de_var 6) (de_callTy call_intU sc_int T.n_int (da_cons (de_cmp (op_eqU hr.hu) sim_eq (de_ix (de_var 7) de_int) de_str) da_nil))))
    (dss_cons (ds_expr (de_extend (de_var 3) (da_cons (de_lc (own := [("way", 9)]) rfl sc_are_rows.nd (di_list (de_call (okg_inner_rows T) (hr.mono (by omega)) T.g_inner_rows T.F_inner_rows.kp (b_inner_rows T) tk (da_cons (de_var 7) da_nil))) (blkOk_by (by show blkC ["thing", "wide", "many", "waiting", "rows", "deep", "turned", "row", "more", "way"] (defScope s_are_rows) _ _ = true; decide +kernel)) (simc1 (by decide)) (fun _ _ _ _ _ => (pg_name (i := 9) sc_are_rows.nd rfl (Or.inl rfl))) (fun _ _ _ _ _ => dts_nil) (fun _ _ _ _ _ => (de_tup (da_cons (de_var 9) (da_cons (de_op op_addU sim_add (de_var 5) de_int) (da_cons (de_var 8) da_nil)))))) da_nil)))
    dss_nil)))
    dss_nil))))))
    (dss_cons (ds_ret de_bl)
    dss_nil)))), fun rs M Q xw h hl => ?_⟩)
  have sl : sizeLine = 16777216 := by decide
  obtain ⟨w, r0, rfl, hd, hc, w2, hQ⟩ := h
  intro f hf
  have hfM : M f = none := hf
  refine ⟨fun m g' M' => ∃ (ps : List Stg) (many : Nat) (s4 s5 s6 s7 s8 s9 : Option R), m = szS ps ∧ m ≤ 10000 ∧ many ≤ 60 ∧ isRowsR w r0 = (okS w ps && decide (many + cntS ps ≤ 60)) ∧ (∀ p ∈ ps, StgOk p) ∧ g' = [some r0, some (.int (w : Int)), some (.int (many : Nat)), some (.o f), s4, s5, s6, s7, s8, s9] ∧ Sub M M' ∧ M' f = some (.lst (ps.map stgR)),
    ⟨_, [(r0, 6, 0)], 0, _, _, _, _, _, _, rfl, by simp [szS]; omega, by omega, by unfold isRowsR okS cntS; simp, fun p hp => (by rw [List.mem_singleton.mp hp]; exact ⟨hd, Nat.le_refl 6⟩), rfl, Sub.new Sub.rfl' hfM, updM_same⟩, ?_⟩
  rintro m g' M' ⟨ps, many, s4, s5, s6, s7, s8, s9, rfl, hm2, hm, heq, hok, rfl, hs, hF⟩
  have lay : Lays 40 (ps.map stgR) := Lays.of fun r hr => by
    obtain ⟨p, hp, rfl⟩ := List.mem_map.mp hr
    exact (Lay.tup (Lays.cons (hok p hp).dt.lay (Lays.cons (Lay.int _) (Lays.cons (Lay.int _) Lays.nil)))).mono (by omega)
  obtain ⟨ds, d1, d2, d3⟩ := lay.shaped (by decide)
  refine ⟨_, _, .inr ⟨f, _, ds, rfl, hF, d1, rfl⟩, .inl rfl, d2, rfl, ?_⟩
  rw [d3, List.isEmpty_map]
  refine ⟨fun q => ?_, fun q => ?_⟩
  rotate_left
  · have e : ps = [] := by
      cases ps with
      | nil => rfl
      | cons _ _ => cases q
    subst e
    have e2 : isRowsR w r0 = true := by rw [heq]; show (true && decide (many + 0 ≤ 60)) = true; rw [decide_eq_true (by omega)]; rfl
    rw [e2] at hQ
    exact ⟨_, Sub.rfl', hQ _ hs⟩
  obtain ⟨qs, p, rfl⟩ : ∃ qs p, ps = qs ++ [p] := by
    rcases List.eq_nil_or_concat ps with e | ⟨a, b, e⟩
    · rw [e] at q; cases q
    · exact ⟨a, b, by rw [e]; simp⟩
  obtain ⟨x, f1, tu⟩ := p
  have pk := hok (x, f1, tu) (List.mem_append_right _ (List.mem_singleton.mpr rfl))
  have pd : Dt 30 x := pk.dt
  have f6 : f1 ≤ 6 := pk.f6
  rw [List.map_append] at hF
  rw [szS_app] at hm2
  rw [okS_app, cntS_app] at heq
  have o1 : okS w [(x, f1, tu)] = okF w f1 tu x := by unfold okS; simp
  have o2 : cntS [(x, f1, tu)] = cntF f1 x := by unfold cntS; simp
  have o3 : szS [(x, f1, tu)] = x.cnt := by unfold szS; simp
  rw [o1, o2] at heq
  rw [o3] at hm2
  have bad : okF w f1 tu x = false → ∀ M2, Sub M M2 → ∃ M1, Sub M1 M2 ∧ Q (.bl false) M1 := fun z M2 s2 => by
    have e : isRowsR w r0 = false := by rw [heq, z]; simp
    rw [e] at hQ
    exact ⟨_, Sub.rfl', hQ _ s2⟩
  have hs1 : Sub M (updM M' f (.lst (qs.map stgR))) := fun b u e => keep_ne (hs _ _ e) (fun z => by rw [z, hfM] at e; cases e)
  have nn : Ty.tup ≠ .non := fun z => by cases z
  refine ⟨qs.map stgR, stgR (x, f1, tu), hF, rfl, ?_⟩
  cases x with
  | tup rows =>
    have hl := pd.len
    by_cases hz : f1 = 0 ∧ rows ≠ []
    · obtain ⟨hz0, hz1⟩ := hz
      have ok0 : okF w f1 tu (.tup rows) = false := by
        subst hz0
        show (rows.isEmpty && decide (tu ≤ 3)) = false
        cases rows with
        | nil => exact absurd rfl hz1
        | cons _ _ => rfl
      obtain ⟨d, e1, e2, e3⟩ := pd.lay
      obtain ⟨ds2, e4, rfl⟩ := tup_py e1
      have sd : SeqAt.shaped (.tuple ds2) = true := by
        unfold SeqAt.shaped
        rw [e2, Bool.true_and]
        exact decide_eq_true (by omega)
      have em : PyData.eqv (.tuple ds2) (.tuple []) = false := by
        rw [eqvTNil]
        cases rows with
        | nil => exact absurd rfl hz1
        | cons a b =>
          cases ds2 with
          | nil => exact absurd (pys_len e4) (by simp)
          | cons _ _ => rfl
      refine ⟨⟨noT rfl, fun _ => ⟨fun z6 => ⟨.tuple ds2, .tuple [], .inl e1, .inl rfl, sd, rfl, ?_⟩, fun z6 => absurd (show decide ((6 : Int) < 7 - ((f1 : Nat) : Int)) = false from z6) (by rw [hz0]; decide)⟩⟩, nn⟩
      rw [em]
      exact ⟨fun _ => ⟨fun _ => bad ok0 _ hs1, tn⟩, tn⟩
    have h0 : f1 = 0 → rows = [] := fun e => by
      by_cases e2 : rows = []
      · exact e2
      · exact absurd ⟨e, e2⟩ hz
    refine ⟨⟨noT rfl, fun _ => ⟨fun z6 => ⟨.tuple [], .tuple [], .inl ?C, .inl rfl, rfl, rfl, ?A⟩, fun z6 => ⟨nt, fun _ => ?B⟩⟩⟩, nn⟩
    case C =>
      have : f1 = 0 := by have : (6 : Int) < 7 - ((f1 : Nat) : Int) := of_decide_eq_true z6; omega
      rw [h0 this]; rfl
    case' A =>
      rw [eqvRefl (d := .tuple []) rfl]
      refine ⟨noT rfl, fun _ => ?_⟩
    all_goals
      refine ⟨fun z3 => ?_, fun z3 => ?_⟩
      · refine bad ?_ _ hs1
        cases e : okF w f1 tu (.tup rows) with
        | false => rfl
        | true =>
          have := (okF_form e h0).1
          have : (3 : Int) < (tu : Int) := of_decide_eq_true z3
          omega
      have t3 : tu ≤ 3 := by have : ¬ (3 : Int) < (tu : Int) := of_decide_eq_false z3; omega
      have c9 := cntF_le h0
      refine ⟨fun z => ⟨fun _ => ?_, tn⟩, fun z => ?_⟩
      · have z' : (60 : Int) < (many : Int) + (rows.length : Int) := of_decide_eq_true z
        have e : isRowsR w r0 = false := by rw [heq, decide_eq_false (by omega), Bool.and_false]
        rw [e] at hQ
        exact ⟨_, Sub.rfl', hQ _ hs1⟩
      have m6 : many + rows.length ≤ 60 := by
        have : ¬ (60 : Int) < (many : Int) + (rows.length : Int) := of_decide_eq_false z
        omega
      refine ⟨by show rows.length < _; omega, fun j acc M2 => acc = ((rows.take j).map (isRowR w)).map R.bl ∧ Sub (updM M' f (.lst (qs.map stgR))) M2, ⟨rfl, Sub.rfl'⟩, ?_, ?_⟩
      · rintro j r acc M2 hr _ ⟨rfl, s2⟩
        have hr' : rows[j]? = some r := hr
        exact ⟨fun _ => ⟨29, w, r, rfl, pd.mem (List.mem_of_getElem? hr'), w2, fun M3 s3 => ⟨by rw [List.take_succ, hr', List.map_append, List.map_append]; rfl, fun b u e => s3 _ _ (s2 _ _ e)⟩⟩, tn⟩
      rintro acc M2 _ ⟨rfl, s2⟩
      refine ⟨_, rfl, ?_⟩
      have hs2 : Sub M M2 := fun b u e => s2 _ _ (hs1 _ _ e)
      have F2 : M2 f = some (.lst (qs.map stgR)) := s2 _ _ updM_same
      rw [List.take_length, List.all_map]
      have ec : (id ∘ isRowR w) = isRowR w := rfl
      rw [ec]
      cases hform : rows.all (isRowR w) with
      | false =>
        refine ⟨fun _ => bad ?_ _ hs2, noF rfl⟩
        cases e : okF w f1 tu (.tup rows) with
        | false => rfl
        | true => have := (okF_form e h0).2; rw [hform] at this; cases this
      | true =>
      refine ⟨noT rfl, fun _ => ?_⟩
      obtain ⟨k1, k2⟩ := stepS h0 t3 hform
      have k3 := ins_cnt f1 tu rows hform
      have k4 := szS_len qs
      have cr : (R.tup rows).cnt = 1 + R.cnts rows := rfl
      refine ⟨fun j g' M3 => ∃ s7 s8 s9 : Option R, g' = [some r0, some (.int (w : Int)), some (.int ((many : Int) + (rows.length : Int))), some (.o f), some (.tup rows), some (.int (7 - (f1 : Int))), some (.int (tu : Int)), s7, s8, s9] ∧ Sub M M3 ∧
        M3 f = some (.lst ((qs ++ ((rows.take j).map (inSg f1 tu)).flatten).map stgR)), ⟨_, _, _, rfl, hs2, by rw [List.take_zero, List.map_nil, List.flatten_nil, List.append_nil]; exact F2⟩, ?_, ?_⟩
      · rintro j r g' M3 hr ⟨s7, s8, s9, rfl, h1, h2⟩
        have hr' : rows[j]? = some r := hr
        have hm := List.mem_of_getElem? hr'
        have hfr := List.all_eq_true.mp hform r hm
        have f1p : 1 ≤ f1 := by
          by_cases e : f1 = 0
          · rw [h0 e] at hm; cases hm
          · omega
        have li := (inn_cnt hfr f1 tu).2
        have c5 := (ins_cnt f1 tu (rows.take j) (List.all_eq_true.mpr fun x hx => List.all_eq_true.mp hform x (List.mem_of_mem_take hx))).2
        have c6 : (rows.take j).length ≤ rows.length := List.length_take_le' ..
        have li2 : (innR r).length ≤ 2 := by unfold inSg at li; rwa [List.length_map] at li
        have e9 : ((rows.take (j + 1)).map (inSg f1 tu)).flatten = ((rows.take j).map (inSg f1 tu)).flatten ++ inSg f1 tu r := by
          rw [List.take_succ, hr']
          simp
        obtain ⟨t, y, tl, rfl, ei, _, _, erd⟩ := row_cases hfr
        refine ⟨.str t, at0, ⟨_, h2⟩, w, _, rfl, hfr, ?_⟩
        refine ⟨by omega, fun j2 acc M4 => acc = ((innR (.tup (.str t :: y :: tl))).take j2).map (fun q => stgR (q, f1 - 1, tu + rndQ (.tup (.str t :: y :: tl)))) ∧ M4 = M3, ⟨rfl, rfl⟩, ?_, ?_⟩
        · rintro j2 q acc M4 hr2 _ ⟨rfl, rfl⟩
          refine ⟨fun _ => ⟨?_, rfl⟩, tn⟩
          show _ ++ [R.tup [q, .int (7 - (f1 : Int) + 1), .int ((tu : Int) + (if decide (t = "round") = true then (1 : Int) else 0))]] = _
          rw [stg_next (tu := tu + rndQ (.tup (.str t :: y :: tl))) f1p, List.take_succ, hr2, List.map_append]
          · rfl
          · rw [erd]
            by_cases q : t = "round"
            · rw [if_pos q, decide_eq_true q]; rfl
            · rw [if_neg q, decide_eq_false q]; rfl
        · rintro acc M4 _ ⟨rfl, rfl⟩
          have e : ((innR (.tup (.str t :: y :: tl))).take (innR (.tup (.str t :: y :: tl))).length).map (fun q => stgR (q, f1 - 1, tu + rndQ (.tup (.str t :: y :: tl)))) = (inSg f1 tu (.tup (.str t :: y :: tl))).map stgR := by
            rw [List.take_length]
            unfold inSg
            rw [List.map_map]
            rfl
          rw [e]
          refine ⟨_, _, h2, rfl, by rw [List.length_map, List.length_map, List.length_append]; omega, _, _, _, rfl, Sub.new h1 hfM, ?_⟩
          rw [updM_same, e9, ← List.append_assoc, List.map_append, List.map_append (l₁ := qs ++ _), List.map_append]
      · rintro g' M3 ⟨s7, s8, s9, rfl, h1, h2⟩
        have h2' : M3 f = some (.lst ((qs ++ (rows.map (inSg f1 tu)).flatten).map stgR)) := by
          have h3 : M3 f = some (.lst ((qs ++ ((rows.take rows.length).map (inSg f1 tu)).flatten).map stgR)) := h2
          rw [List.take_length] at h3
          exact h3
        refine ⟨szS (qs ++ (rows.map (inSg f1 tu)).flatten), by rw [szS_app, szS_app, o3]; omega, qs ++ (rows.map (inSg f1 tu)).flatten, many + rows.length, some (.tup rows), some (.int (7 - (f1 : Int))), some (.int (tu : Int)), s7, s8, s9, rfl, by rw [szS_app]; omega, m6, ?_, ?_, by rw [Int.natCast_add], h1, h2'⟩
        · rw [heq, okS_app, cntS_app, k1, k2]
          congr 1
          exact decide_eq_decide.mpr (by omega)
        · intro p hp
          rcases List.mem_append.mp hp with hp | hp
          · exact hok p (List.mem_append_left _ hp)
          · exact inSg_ok pd hform f6 p hp
  | _ => cases pd <;> exact ⟨⟨fun _ => ⟨fun _ => bad (by cases f1 <;> rfl) _ hs1, tn⟩, tn⟩, nn⟩
end
section
variable {P : Program} {w : World} {K : PySem.W.Frag} {mg : Str → Option Value} {base : Heap}
def spIsProgramG : DSp := fun rs M Q _ => ∃ r : R, rs = [r] ∧ Dt 31 r ∧ r.cnt ≤ 10000 ∧ ∀ M', Sub M M' → Q (.bl (isProgR r)) M'
theorem prog_shape {a b c : R} : isProgR (.tup [a, b, c]) = (isWholeR a 1 12 && (match a, b with | .int w, .tup ns => decide (ns.length ≤ 4) && (ns.all isNameR && isRowsR w.toNat c) | _, _ => false)) := by
  cases a <;> cases b <;> first | rfl | (simp only [isProgR, isWholeR, Bool.false_and]) | skip
  all_goals simp only [isProgR, isWholeR, Bool.and_false, Bool.and_assoc]
theorem ok_is_program (T : Txt w K mg) : DFn P w K mg base 5 (He.ga K "is_program") T.d_is_program ["thing"] (spIsProgramG) := by
  refine dfn_of T.F_is_program sc_is_program (fun cdv A outer s H E hr tk hp => ⟨_, (dss_cons (ds_if (DW.dt (dw_or (dt_not (dt_val (de_callB call_isi sc_isi T.n_isinstance (da_cons (de_var 0) (da_cons (de_ty .tup T.n_tuple) da_nil))))) (dw_or (dt_cmp (op_neU hr.hu) sim_ne (de_callB call_lenU sc_len T.n_len (da_cons (de_var 0) da_nil)) de_int) (dw_or1 (dt_not (dt_val (de_call (ok_is_whole T) (hr.mono (by decide)) T.g_is_whole T.F_is_whole.kp (b_is_whole T) tk (da_cons (de_ix (de_var 0) de_int) (da_cons de_int (da_cons (de_gint T.c_MOST_WIDE) da_nil)))))))))) (dss_cons (ds_ret de_bl)
    dss_nil) dss_nil)
    (dss_cons (ds_if (DW.dt (dw_or (dt_not (dt_val (de_callB call_isi sc_isi T.n_isinstance (da_cons (de_ix (de_var 0) de_int) (da_cons (de_ty .tup T.n_tuple) da_nil))))) (dw_or (dt_cmp op_gt sim_B0 (de_callB call_lenU sc_len T.n_len (da_cons (de_ix (de_var 0) de_int) da_nil)) (de_gint T.c_MOST_INPUTS)) (dw_or1 (dt_not (dt_val (de_callB (cr_all rfl) sc_all T.n_all (da_cons (de_lc (own := [("one", 1)]) rfl sc_is_program.nd (di_tup (de_ix (de_var 0) de_int)) (blkOk_by (by show blkC ["thing", "one"] (defScope s_is_program) _ _ = true; decide +kernel)) (simc1 (by decide)) (fun _ _ _ _ _ => (pg_name (i := 1) sc_is_program.nd rfl (Or.inl rfl))) (fun _ _ _ _ _ => dts_nil) (fun _ _ _ _ _ => (de_call (ok_is_name T) (hr.mono (by decide)) T.g_is_name T.F_is_name.kp (b_is_name T) takes0 (da_cons (de_var 1) da_nil)))) da_nil)))))))) (dss_cons (ds_ret de_bl)
    dss_nil) dss_nil)
    (dss_cons (ds_ret (de_call (ok_are_rows T) (hr.mono (by decide)) T.g_are_rows T.F_are_rows.kp (b_are_rows T) tk (da_cons (de_ix (de_var 0) de_int) (da_cons (de_ix (de_var 0) de_int) da_nil))))
    dss_nil))), fun rs M Q xw h hl => ?_⟩)
  have sl : sizeLine = 16777216 := by decide
  obtain ⟨r, rfl, hd, hc, hQ⟩ := h
  have nn : Ty.tup ≠ .non := fun z => by cases z
  cases r with
  | tup rs =>
    have hl := hd.len
    refine ⟨⟨noT rfl, fun _ => ⟨fun z => ⟨fun _ => ?_, tn⟩, fun z => ?_⟩⟩, nn⟩
    · have e : isProgR (.tup rs) = false := by
        have n3 : rs.length ≠ 3 := fun q => by
          have z' : (!decide (((rs.length : Nat) : Int) = 3)) = true := z
          rw [q] at z'; cases z'
        match rs, n3 with
        | [], _ => rfl
        | [_], _ => unfold isProgR; split <;> first | rfl | (rename_i q; cases q)
        | [_, _], _ => unfold isProgR; split <;> first | rfl | (rename_i q; cases q)
        | [_, _, _], n => exact absurd rfl n
        | _ :: _ :: _ :: _ :: _, _ => unfold isProgR; split <;> first | rfl | (rename_i q; cases q)
      rw [e] at hQ
      exact ⟨_, Sub.rfl', hQ _ Sub.rfl'⟩
    obtain ⟨a, b, c, rfl⟩ : ∃ a b c, rs = [a, b, c] := by
      have z' : (!decide (((rs.length : Nat) : Int) = 3)) = false := z
      have n3 : rs.length = 3 := by
        by_cases q : rs.length = 3
        · exact q
        · rw [decide_eq_false (by omega)] at z'; cases z'
      match rs, n3 with
      | [a, b, c], _ => exact ⟨a, b, c, rfl⟩
    have da : Dt 30 a := Dt.mem hd (by simp)
    have db : Dt 30 b := Dt.mem hd (by simp)
    have dc : Dt 30 c := Dt.mem hd (by simp)
    have cc : (R.tup [a, b, c]).cnt = 1 + (a.cnt + (b.cnt + (c.cnt + 0))) := rfl
    rw [prog_shape] at hQ
    refine ⟨a, at0, a, 1, 12, rfl, da.kind, ?_⟩
    cases hw : isWholeR a 1 12 with
    | false =>
      rw [hw, Bool.false_and] at hQ
      exact ⟨fun _ => ⟨_, Sub.rfl', hQ _ Sub.rfl'⟩, noF rfl⟩
    | true =>
      rw [hw, Bool.true_and] at hQ
      refine ⟨noT rfl, fun _ => ?_⟩
      obtain ⟨w, rfl, w1, w2⟩ : ∃ w : Nat, a = .int (w : Int) ∧ 1 ≤ w ∧ w ≤ 12 := by
        cases a with
        | int i =>
          have h' : (decide ((1 : Int) ≤ i) && decide (i ≤ 12)) = true := hw
          rw [Bool.and_eq_true] at h'
          have h1 := of_decide_eq_true h'.1
          have h2 := of_decide_eq_true h'.2
          exact ⟨i.toNat, by rw [Int.toNat_of_nonneg (by omega)], by omega, by omega⟩
        | _ => cases hw
      refine ⟨b, at1, ?_⟩
      cases b with
      | tup ns =>
        have hQ : ∀ M', Sub M M' → Q (.bl (decide (ns.length ≤ 4) && (ns.all isNameR && isRowsR w c))) M' := hQ
        have hn := db.len
        refine ⟨⟨noT rfl, fun _ => ⟨.tup ns, at1, fun z4 => ⟨fun _ => ?_, tn⟩, fun z4 => ?_⟩⟩, nn⟩
        · have z' : (4 : Int) < (ns.length : Int) := of_decide_eq_true z4
          rw [decide_eq_false (by omega), Bool.false_and] at hQ
          exact ⟨_, Sub.rfl', hQ _ Sub.rfl'⟩
        have z' : ¬ (4 : Int) < (ns.length : Int) := of_decide_eq_false z4
        rw [decide_eq_true (by omega), Bool.true_and] at hQ
        refine ⟨.tup ns, at1, by omega, fun j acc M2 => acc = ((ns.take j).map isNameR).map R.bl ∧ M2 = M, ⟨rfl, rfl⟩, ?_, ?_⟩
        · rintro j r acc M2 hr _ ⟨rfl, rfl⟩
          exact ⟨fun _ => ⟨_, r, rfl, db.mem (k := 29) (List.mem_of_getElem? hr), by rw [List.take_succ, hr, List.map_append, List.map_append]; rfl, rfl⟩, tn⟩
        · rintro acc M2 _ ⟨rfl, rfl⟩
          refine ⟨_, rfl, ?_⟩
          rw [List.take_length, List.all_map]
          have ec : (id ∘ isNameR) = isNameR := rfl
          rw [ec]
          cases ha : ns.all isNameR with
          | false =>
            rw [ha, Bool.false_and] at hQ
            exact ⟨fun _ => ⟨_, Sub.rfl', hQ _ Sub.rfl'⟩, noF rfl⟩
          | true =>
            rw [ha, Bool.true_and] at hQ
            exact ⟨noT rfl, fun _ => ⟨c, at2, .int (w : Int), at0, w, c, rfl, dc, by omega, w2, fun M' s => ⟨_, Sub.rfl', hQ _ s⟩⟩⟩
      | _ =>
        have hQ : ∀ M', Sub M M' → Q (.bl false) M' := hQ
        cases db <;> exact ⟨⟨fun _ => ⟨fun _ => ⟨_, Sub.rfl', hQ _ Sub.rfl'⟩, tn⟩, tn⟩, nn⟩
  | _ =>
    have hQ : ∀ M', Sub M M' → Q (.bl false) M' := hQ
    cases hd <;> exact ⟨⟨fun _ => ⟨fun _ => ⟨_, Sub.rfl', hQ _ Sub.rfl'⟩, tn⟩, tn⟩, nn⟩
end
section
variable {P : Program} {w : World} {K : PySem.W.Frag} {mg : Str → Option Value} {base : Heap}
def spEnd (d : Nat) : DSp := fun rs M Q _ => ∃ (w : Nat) (ns known : List Str) (xs : List Rw), rs = [.tup (Rw.rl xs), .lst (known.map R.str)] ∧ 1 ≤ d ∧ Rw.Vdl w ns d xs ∧ known.length + Rw.ctl xs ≤ 1000 ∧ Q (.lst ((Rw.thl known xs).map R.str)) M
def spBehind (d : Nat) : DSp := fun rs M Q _ => ∃ (w : Nat) (ns known : List Str) (x : Rw), rs = [x.r, .lst (known.map R.str)] ∧ 1 ≤ d ∧ Rw.Vd w ns d x ∧ known.length + x.ct ≤ 1000 ∧ Q (.lst ((x.th known).map R.str)) M
theorem spEnd_void : ∀ rs M Q xw, ¬ spEnd 0 rs M Q xw := fun _ _ _ _ ⟨_, _, _, _, _, h, _⟩ => by omega
theorem nbW : decide (("tell" : Str) = "set") = false ∧ decide (("if" : Str) = "set") = false ∧ decide (("round" : Str) = "set") = false ∧ decide (("tell" : Str) = "if") = false ∧ decide (("round" : Str) = "if") = false ∧ decide (("tell" : Str) = "round") = false := by decide +kernel
def pIns (ws : List Str) (r : R) : Bool := match r with
  | .str s => decide (s ∈ ws)
  | _ => false
theorem insList (ws ks : List Str) : ((ks.map R.str).filter (pIns ws)).map id = (ks.filter fun k => decide (k ∈ ws)).map R.str := by
  rw [List.map_id, List.filter_map]
  rfl
theorem thLen : (∀ (x : Rw) (known : List Str), (x.th known).length ≤ known.length + x.ct) ∧ ∀ (xs : List Rw) (known : List Str), (Rw.thl known xs).length ≤ known.length + Rw.ctl xs := ⟨thb_len, thlb_len⟩
theorem okb_names_behind (T : Txt w K mg) (d : Nat) (IH : DFn P w K mg base (2 * d + 1) (He.ga K "names_at_end") T.d_names_at_end ["rows", "known"] (spEnd d)) : DFn P w K mg base (2 * d + 2) (He.ga K "names_behind") T.d_names_behind ["row", "known"] (spBehind (d + 1)) := by
  refine dfn_of T.F_names_behind sc_names_behind (fun cdv A outer s H E hr tk hp => ⟨_, (dss_cons (ds_if (dt_cmp (op_eqU hr.hu) sim_eq (de_ix (de_var 0) de_int) de_str) (dss_cons (ds_ret (de_if (dt_cmp op_inU sim_in (de_ix (de_var 0) de_int) (de_var 1)) (de_var 1) (de_op op_addU sim_add (de_var 1) (de_lst (da_cons (de_ix (de_var 0) de_int) da_nil)))))
    dss_nil) dss_nil)
    (dss_cons (ds_if (dt_cmp (op_eqU hr.hu) sim_eq (de_ix (de_var 0) de_int) de_str) (dss_cons (ds_set 2 sc_names_behind.nd (de_call IH (hr.mono (by omega)) T.g_names_at_end T.F_names_at_end.kp (b_names_at_end T) tk (da_cons (de_ix (de_var 0) de_int) (da_cons (de_var 1) da_nil))))
    (dss_cons (ds_ret (de_lc (own := [("name", 3)]) rfl sc_names_behind.nd (di_list (de_call IH (hr.mono (by omega)) T.g_names_at_end T.F_names_at_end.kp (b_names_at_end T) tk (da_cons (de_ix (de_var 0) de_int) (da_cons (de_var 1) da_nil)))) (blkOk_by (by show blkC ["row", "known", "other", "name"] (defScope s_names_behind) _ _ = true; decide +kernel)) (simc1 (by decide)) (fun _ _ _ _ _ => (pg_name (i := 3) sc_names_behind.nd rfl (Or.inl rfl))) (fun _ _ _ _ _ => (dts_one (dt_cmp op_inU sim_in (de_var 3) (de_var 2)))) (fun _ _ _ _ _ => (de_var 3))))
    dss_nil)) dss_nil)
    (dss_cons (ds_ret (de_if (DW.dt (dw_and (dt_cmp (op_eqU hr.hu) sim_eq (de_ix (de_var 0) de_int) de_str) (dw_and1 (dt_cmp op_gt sim_B0 (de_ix (de_var 0) de_int) de_int)))) (de_call IH (hr.mono (by omega)) T.g_names_at_end T.F_names_at_end.kp (b_names_at_end T) tk (da_cons (de_ix (de_var 0) de_int) (da_cons (de_var 1) da_nil))) (de_var 1)))
    dss_nil))), fun rs M Q xw h hl => ?_⟩)
  have sl : sizeLine = 16777216 := by decide
  obtain ⟨w, ns, known, x, rfl, d1, hv, hc, hQ⟩ := h
  cases x with
  | set a e =>
    rw [Rw.th] at hQ
    rw [Rw.ct] at hc
    rw [Rw.r]
    refine ⟨_, rfl, fun _ => ⟨.str a, rfl, _, rfl, rfl, flat_strs known, fun z => ?_, fun z => ?_⟩, noF (decide_eq_true rfl)⟩
    · have z' : decide (a ∈ known) = true := by rw [← in_strs]; exact z
      rw [if_pos (of_decide_eq_true z')] at hQ
      exact ⟨_, Sub.rfl', hQ⟩
    · have z' : decide (a ∈ known) = false := by rw [← in_strs]; exact z
      rw [if_neg (of_decide_eq_false z'), List.map_append] at hQ
      exact ⟨_, rfl, _, _, rfl, rfl, (by rw [List.length_map]; show _ + 1 ≤ _; omega), _, Sub.rfl', hQ⟩
  | tell a =>
    rw [Rw.th] at hQ
    rw [Rw.r]
    exact ⟨_, rfl, noT nbW.1, fun _ => ⟨_, rfl, noT nbW.2.2.2.1, fun _ => ⟨_, rfl, noT nbW.2.2.2.2.2, fun _ => ⟨nt, fun _ => ⟨_, Sub.rfl', hQ⟩⟩⟩⟩⟩
  | iff a p q =>
    rw [Rw.th] at hQ
    rw [Rw.ct] at hc
    rw [Rw.Vd] at hv
    rw [Rw.r]
    have lp := thLen.2 p known
    have lq := thLen.2 q known
    refine ⟨_, rfl, noT nbW.2.1, fun _ => ⟨_, rfl, fun _ => ?_, noF (decide_eq_true rfl)⟩⟩
    refine ⟨_, rfl, w, ns, known, q, rfl, by omega, hv.2.2.2, by omega, ?_⟩
    refine ⟨_, rfl, w, ns, known, p, rfl, by omega, hv.2.2.1, by omega, ?_⟩
    refine ⟨by rw [List.length_map]; omega, lcFM (pIns (Rw.thl known q)) id (fun r hr Pt Pf p1 p2 => ?_) ?_⟩
    · obtain ⟨s, hs, rfl⟩ := List.mem_map.mp hr
      have e : pIns (Rw.thl known q) (.str s) = inR (.str s) ((Rw.thl known q).map R.str) := by rw [in_strs]; rfl
      exact ⟨_, rfl, rfl, flat_strs (Rw.thl known q), fun y => p1 (e.trans y), fun y => p2 (e.trans y)⟩
    rw [insList]
    exact ⟨_, Sub.rfl', hQ⟩
  | rnd n p =>
    rw [Rw.th] at hQ
    rw [Rw.ct] at hc
    rw [Rw.Vd] at hv
    rw [Rw.r]
    refine ⟨_, rfl, noT nbW.2.2.1, fun _ => ⟨_, rfl, noT nbW.2.2.2.2.1, fun _ => ⟨_, rfl, fun _ => ⟨_, rfl, fun z => ?_, fun z => ?_⟩, noF (decide_eq_true rfl)⟩⟩⟩
    · rw [if_pos (by have := of_decide_eq_true z; omega)] at hQ
      exact ⟨_, rfl, w, ns, known, p, rfl, by omega, hv.2.2, by omega, _, Sub.rfl', hQ⟩
    · rw [if_neg (by have := of_decide_eq_false z; omega)] at hQ
      exact ⟨_, Sub.rfl', hQ⟩
theorem ok_names_at_end (T : Txt w K mg) : ∀ d : Nat, DFn P w K mg base (2 * d + 1) (He.ga K "names_at_end") T.d_names_at_end ["rows", "known"] (spEnd d)
 | 0 => dfn_void T.F_names_at_end sc_names_at_end spEnd_void
 | d + 1 => by
  refine dfn_of T.F_names_at_end sc_names_at_end (fun cdv A outer s H E hr tk hp => ⟨_, (dss_cons (ds_for hp rfl (di_tup (de_var 0)) (dg_name 2 sc_names_at_end.nd) (dss_cons (ds_set 1 sc_names_at_end.nd (de_call (okb_names_behind T d (ok_names_at_end T d)) (hr.mono (by omega)) T.g_names_behind T.F_names_behind.kp (b_names_behind T) tk (da_cons (de_var 2) (da_cons (de_var 1) da_nil))))
    dss_nil))
    (dss_cons (ds_ret (de_var 1))
    dss_nil)), fun rs M Q xw h hl => ?_⟩)
  obtain ⟨w, ns, known, xs, rfl, d1, hv, hc, hQ⟩ := h
  refine ⟨fun i g' M' => ∃ s2 : Option R, g' = [some (.tup (Rw.rl xs)), some (.lst ((Rw.thl known (xs.take i)).map R.str)), s2] ∧ M' = M, ⟨none, by rw [List.take_zero, Rw.thl]; rfl, rfl⟩, ?_, ?_⟩
  · rintro i r g' M' hr ⟨s2, rfl, rfl⟩
    rw [rl_map, List.getElem?_map] at hr
    obtain ⟨x, hx, rfl⟩ := Option.map_eq_some_iff.mp hr
    have vx := vdl_mem hv (List.mem_of_getElem? hx)
    have e1 := ctl_take hx
    have e2 := ctl_take_le xs (i + 1)
    have e3 := thLen.2 (xs.take i) known
    refine ⟨w, ns, Rw.thl known (xs.take i), x, rfl, by omega, vx, by omega, some x.r, ?_, rfl⟩
    rw [thl_take hx]
    rfl
  · rintro g' M' ⟨s2, rfl, rfl⟩
    rw [rl_map, List.length_map, List.take_length]
    exact ⟨_, Sub.rfl', hQ⟩
end
section
variable {P : Program} {w : World} {K : PySem.W.Frag} {mg : Str → Option Value} {base : Heap}
theorem ok_names_behind (T : Txt w K mg) (_ : Nat) : DFn P w K mg base 12 (He.ga K "names_behind") T.d_names_behind ["row", "known"] (spBehind 6) := okb_names_behind T 5 (ok_names_at_end T 5)
end
section
variable {P : Program} {w : World} {K : PySem.W.Frag} {mg : Str → Option Value} {base : Heap}
theorem us_len (x : Rw) : x.us.length ≤ 3 := by
  cases x with
  | set a e => cases e <;> simp [Rw.us, Xp.names]
  | tell a => simp [Rw.us]
  | iff a p q => simp [Rw.us]
  | rnd k p => simp [Rw.us]
theorem single_le_sum_nat : ∀ {l : List Nat} {a : Nat}, a ∈ l → a ≤ l.sum
  | b :: l, a, h => by
    rw [List.sum_cons]
    rcases List.mem_cons.mp h with rfl | h
    · omega
    · have := single_le_sum_nat h; omega
def spLackV (d : Nat) : DSp := fun rs M Q _ => ∃ (w : Nat) (ns known : List Str) (xs : List Rw) (pl : Int), rs = [.tup (Rw.rl xs), .lst (known.map R.str), .int pl] ∧ 1 ≤ d ∧ d ≤ 6 ∧ Rw.Vdl w ns d xs ∧ known.length + Rw.ctl xs ≤ 900 ∧ ∀ M', Sub M M' → Q (optI (Rw.lkl xs known pl)) M'
theorem spLackV_void : ∀ rs M Q xw, ¬ spLackV 0 rs M Q xw := fun _ _ _ _ ⟨_, _, _, _, _, _, h, _⟩ => by omega
theorem ok_first_lacking (T : Txt w K mg) : ∀ d : Nat, DFn P w K mg base (d + 22) (He.ga K "first_lacking") T.d_first_lacking ["rows", "known", "place"] (spLackV d)
 | 0 => dfn_void T.F_first_lacking sc_first_lacking spLackV_void
 | d + 1 => by
  refine dfn_of T.F_first_lacking sc_first_lacking (fun cdv A outer s H E hr tk hp => ⟨_, (dss_cons (ds_for hp rfl (di_tup (de_var 0)) (dg_name 3 sc_first_lacking.nd) (dss_cons (ds_if (dt_not (dt_val (de_callB (cr_all rfl) sc_all T.n_all (da_cons (de_lc (own := [("name", 6)]) rfl sc_first_lacking.nd (di_list (de_call (ok_uses T) (hr.mono (by omega)) T.g_uses T.F_uses.kp (b_uses T) tk (da_cons (de_var 3) da_nil))) (blkOk_by (by show blkC ["rows", "known", "place", "row", "way", "found", "name"] (defScope s_first_lacking) _ _ = true; decide +kernel)) (simc1 (by decide)) (fun _ _ _ _ _ => (pg_name (i := 6) sc_first_lacking.nd rfl (Or.inl rfl))) (fun _ _ _ _ _ => dts_nil) (fun _ _ _ _ _ => (de_cmp op_inU sim_in (de_var 6) (de_var 1)))) da_nil)))) (dss_cons (ds_ret (de_var 2))
    dss_nil) dss_nil)
    (dss_cons (ds_set 2 sc_first_lacking.nd (de_op op_addU sim_add (de_var 2) de_int))
    (dss_cons (ds_for hp rfl (di_list (de_call (ok_inner_rows T) (hr.mono (by omega)) T.g_inner_rows T.F_inner_rows.kp (b_inner_rows T) tk (da_cons (de_var 3) da_nil))) (dg_name 4 sc_first_lacking.nd) (dss_cons (ds_set 5 sc_first_lacking.nd (de_call (ok_first_lacking T d) (hr.mono (by omega)) T.g_first_lacking T.F_first_lacking.kp (b_first_lacking T) tk (da_cons (de_var 4) (da_cons (de_var 1) (da_cons (de_var 2) da_nil)))))
    (dss_cons (ds_if (dt_cmp op_notU sim_isnot (de_var 5) de_non) (dss_cons (ds_ret (de_var 5))
    dss_nil) dss_nil)
    (dss_cons (ds_set 2 sc_first_lacking.nd (de_op op_addU sim_add (de_var 2) (de_callB call_lenU sc_len T.n_len (da_cons (de_call (ok_rows_within T 6) (hr.mono (by omega)) T.g_rows_within T.F_rows_within.kp (b_rows_within T) tk (da_cons (de_var 4) da_nil)) da_nil))))
    dss_nil))))
    (dss_cons (ds_set 1 sc_first_lacking.nd (de_call (ok_names_behind T 6) (hr.mono (by omega)) T.g_names_behind T.F_names_behind.kp (b_names_behind T) tk (da_cons (de_var 3) (da_cons (de_var 1) da_nil))))
    dss_nil)))))
    (dss_cons (ds_ret de_non)
    dss_nil)), fun rs M Q xw h hl => ?_⟩)
  obtain ⟨w, ns, known, xs, pl, rfl, d1, d4, hv, hc, hQ⟩ := h
  have sl : sizeLine = 16777216 := by decide
  refine ⟨fun i g' M' => ∃ (s3 s4 s5 s6 : Option R), g' = [some (.tup (Rw.rl xs)), some (.lst ((Rw.thl known (xs.take i)).map R.str)), some (.int (pl + (Rw.ctl (xs.take i) : Nat))), s3, s4, s5, s6] ∧ Sub M M' ∧ Rw.lkl xs known pl = Rw.lkl (xs.drop i) (Rw.thl known (xs.take i)) (pl + (Rw.ctl (xs.take i) : Nat)),
    ⟨none, none, none, none, by rw [List.take_zero, Rw.thl, Rw.ctl]; show _ = [_, _, some (R.int (pl + 0)), _, _, _, _]; rw [Int.add_zero]; rfl, Sub.rfl', by rw [List.take_zero, Rw.thl, Rw.ctl, List.drop_zero]; show _ = Rw.lkl xs known (pl + 0); rw [Int.add_zero]⟩, ?_, ?_⟩
  · rintro i r g' M' hr ⟨s3, s4, s5, s6, rfl, hM, hE⟩
    rw [rl_map, List.getElem?_map] at hr
    obtain ⟨x, hx, rfl⟩ := Option.map_eq_some_iff.mp hr
    have vx := vdl_mem hv (List.mem_of_getElem? hx)
    have us3 := us_len x
    have e1 := ctl_take hx
    have e2 := ctl_take_le xs (i + 1)
    have e3 := thLen.2 (xs.take i) known
    have ci := inn_ct x
    rw [drop_at hx, Rw.lkl] at hE
    generalize hK : Rw.thl known (xs.take i) = K' at hE e3 ⊢
    generalize hP : pl + ((Rw.ctl (xs.take i) : Nat) : Int) = P' at hE ⊢
    refine ⟨w, ns, _, x, rfl, vx, ?_⟩
    refine ⟨by rw [List.length_map]; omega, fun j acc M2 => acc = ((x.us.take j).map fun a => decide (a ∈ K')).map R.bl ∧ M2 = M', ⟨rfl, rfl⟩, ?_, ?_⟩
    · rintro j r acc M2 hr2 _ ⟨rfl, rfl⟩
      rw [List.getElem?_map] at hr2
      obtain ⟨s, hs2, rfl⟩ := Option.map_eq_some_iff.mp hr2
      refine ⟨fun _ => ⟨_, rfl, rfl, flat_strs _, ?_, rfl⟩, tn⟩
      show _ ++ [R.bl (inR (.str s) (K'.map R.str))] = _
      rw [in_strs, List.take_succ, hs2, List.map_append, List.map_append]
      rfl
    · rintro acc M2 _ ⟨rfl, rfl⟩
      refine ⟨_, rfl, ?_⟩
      rw [List.length_map, List.take_length, List.all_map]
      have ec : (id ∘ fun a => decide (a ∈ K')) = fun a => decide (a ∈ K') := rfl
      rw [ec]
      cases ha : x.us.all fun a => decide (a ∈ K') with
      | false =>
        rw [ha, if_neg Bool.false_ne_true] at hE
        rw [hE] at hQ
        exact ⟨fun _ => ⟨_, Sub.rfl', hQ _ hM⟩, noF rfl⟩
      | true =>
      rw [ha, if_pos rfl] at hE
      refine ⟨noT rfl, fun _ => ?_⟩
      rw [lkw_inn] at hE
      refine ⟨x, rfl, fun j g' M2 => ∃ (s4 s5 s6 : Option R), g' = [some (.tup (Rw.rl xs)), some (.lst (K'.map R.str)), some (.int (P' + 1 + (((x.inn.take j).map Rw.ctl).sum : Nat))), some x.r, s4, s5, s6] ∧ Sub M M2 ∧ lkW x.inn K' (P' + 1) = lkW (x.inn.drop j) K' (P' + 1 + (((x.inn.take j).map Rw.ctl).sum : Nat)),
        ⟨_, _, _, by rw [List.take_zero]; show _ = [_, _, some (R.int (P' + 1 + 0)), _, _, _, _]; rw [Int.add_zero]; rfl, hM, by rw [List.take_zero, List.drop_zero]; show _ = lkW x.inn K' (P' + 1 + 0); rw [Int.add_zero]⟩, ?_, ?_⟩
      · rintro j r g' M2 hr2 ⟨s4, s5, s6, rfl, hM2, hE2⟩
        rw [List.getElem?_map] at hr2
        obtain ⟨p, hp, rfl⟩ := Option.map_eq_some_iff.mp hr2
        have hpm := List.mem_of_getElem? hp
        have vp := inn_vd vx p hpm
        have cp : Rw.ctl p ≤ (x.inn.map Rw.ctl).sum := single_le_sum_nat (List.mem_map_of_mem hpm)
        rw [drop_at hp, lkW] at hE2
        refine ⟨w, ns, K', p, _, rfl, vp.1, by omega, vp.2, by omega, fun M3 s3 => ?_⟩
        cases hl : Rw.lkl p K' (P' + 1 + (((x.inn.take j).map Rw.ctl).sum : Nat)) with
        | some q =>
          rw [hl] at hE2
          rw [hE2] at hE
          rw [hE] at hQ
          exact ⟨fun _ => ⟨_, Sub.rfl', hQ _ fun b u e => s3 _ _ (hM2 _ _ e)⟩, noF rfl⟩
        | none =>
          rw [hl] at hE2
          refine ⟨noT rfl, fun _ => ?_⟩
          refine ⟨w, ns, p, rfl, by decide, vdl_mono (by omega) p vp.2, by omega, fun M4 s4 => ?_⟩
          have e5 : ((x.inn.take (j + 1)).map Rw.ctl).sum = ((x.inn.take j).map Rw.ctl).sum + Rw.ctl p := by
            rw [List.take_succ, hp, List.map_append, List.sum_append]; simp
          have e6 : P' + 1 + (((x.inn.take (j + 1)).map Rw.ctl).sum : Nat) = P' + 1 + (((x.inn.take j).map Rw.ctl).sum : Nat) + (((Rw.all p).length : Nat) : Int) := by
            rw [e5, all_len]; omega
          refine ⟨_, _, _, by rw [e6]; rfl, fun b u e => s4 _ _ (s3 _ _ (hM2 _ _ e)), ?_⟩
          rw [hE2, e6, all_len]
      · rintro g' M2 ⟨s4, s5, s6, rfl, hM2, hE2⟩
        rw [List.length_map, List.drop_length, List.take_length, lkW] at hE2
        rw [hE2] at hE
        refine ⟨w, ns, _, x, rfl, by decide, vd_mono (by omega) x vx, by omega, ?_⟩
        have e7 : pl + ((Rw.ctl (xs.take (i + 1)) : Nat) : Int) = P' + (x.ct : Nat) := by rw [e1, ← hP]; omega
        have e8 : P' + 1 + (((x.inn.take (x.inn.map fun p => R.tup (Rw.rl p)).length).map Rw.ctl).sum : Nat) = P' + (x.ct : Nat) := by
          rw [List.length_map, List.take_length, ci]; omega
        refine ⟨some x.r, s4, s5, s6, ?_, hM2, ?_⟩
        · rw [thl_take hx, hK, e7, e8]; rfl
        · rw [hE, thl_take hx, hK, e7]
  · rintro g' M' ⟨s3, s4, s5, s6, rfl, hM, hE⟩
    have lr : (Rw.rl xs).length = xs.length := by rw [rl_map, List.length_map]
    rw [lr, List.drop_length, Rw.lkl] at hE
    rw [hE] at hQ
    exact ⟨_, Sub.rfl', hQ _ hM⟩
end
section
variable {P : Program} {w : World} {K : PySem.W.Frag} {mg : Str → Option Value} {base : Heap}
theorem ok_steps_of (T : Txt w K mg) : ∀ d : Nat, DFn P w K mg base (d + 1) (He.ga K "steps_of") T.d_steps_of ["rows"] (spSteps d)
 | 0 => dfn_void T.F_steps_of sc_steps_of spSteps_void
 | d + 1 => by
  refine dfn_of T.F_steps_of sc_steps_of (fun cdv A outer s H E hr tk hp => ⟨_, (dss_cons (ds_set 1 sc_steps_of.nd de_int)
    (dss_cons (ds_for hp rfl (di_tup (de_var 0)) (dg_name 2 sc_steps_of.nd) (dss_cons (ds_set 1 sc_steps_of.nd (de_op op_addU sim_add (de_var 1) de_int))
    (dss_cons (ds_if (dt_cmp (op_eqU hr.hu) sim_eq (de_ix (de_var 2) de_int) de_str) (dss_cons (ds_set 1 sc_steps_of.nd (de_op op_addU sim_add (de_var 1) (de_callB (call_mx rfl) sc_mx T.n_max (da_cons (de_call (ok_steps_of T d) (hr.mono (by omega)) T.g_steps_of T.F_steps_of.kp (b_steps_of T) tk (da_cons (de_ix (de_var 2) de_int) da_nil)) (da_cons (de_call (ok_steps_of T d) (hr.mono (by omega)) T.g_steps_of T.F_steps_of.kp (b_steps_of T) tk (da_cons (de_ix (de_var 2) de_int) da_nil)) da_nil)))))
    dss_nil) (dss_cons (ds_if (dt_cmp (op_eqU hr.hu) sim_eq (de_ix (de_var 2) de_int) de_str) (dss_cons (ds_set 1 sc_steps_of.nd (de_op op_addU sim_add (de_var 1) (de_op op_mulU sim_mul (de_ix (de_var 2) de_int) (de_call (ok_steps_of T d) (hr.mono (by omega)) T.g_steps_of T.F_steps_of.kp (b_steps_of T) tk (da_cons (de_ix (de_var 2) de_int) da_nil)))))
    dss_nil) dss_nil)
    dss_nil))
    dss_nil)))
    (dss_cons (ds_ret (de_var 1))
    dss_nil))), fun rs M Q xw h hl => ?_⟩)
  obtain ⟨w, ns, xs, rfl, d1, hv, hQ⟩ := h
  refine ⟨fun i g' M' => ∃ (s2 : Option R) (v : Int), g' = [some (.tup (Rw.rl xs)), some (.int v), s2] ∧ v = (Rw.stl (xs.take i) : Nat) ∧ M' = M, ⟨_, _, rfl, rfl, rfl⟩, ?_, ?_⟩
  · rintro i r g' M' hr ⟨s2, v, rfl, rfl, rfl⟩
    rw [rl_map, List.getElem?_map] at hr
    obtain ⟨x, hx, rfl⟩ := Option.map_eq_some_iff.mp hr
    have vx := vdl_mem hv (List.mem_of_getElem? hx)
    have es := stl_take hx
    cases x with
    | set a e =>
      rw [Rw.st] at es
      rw [Rw.r]
      refine ⟨_, rfl, noT rowW.1, fun _ => ⟨_, rfl, noT rowW.2.1, fun _ => ⟨_, _, rfl, by rw [es]; omega, rfl⟩⟩⟩
    | tell a =>
      rw [Rw.st] at es
      rw [Rw.r]
      refine ⟨_, rfl, noT rowW.2.2.1, fun _ => ⟨_, rfl, noT rowW.2.2.2.1, fun _ => ⟨_, _, rfl, by rw [es]; omega, rfl⟩⟩⟩
    | iff a p q =>
      rw [Rw.Vd] at vx
      rw [Rw.st] at es
      rw [Rw.r]
      refine ⟨_, rfl, fun _ => ?_, noF (decide_eq_true rfl)⟩
      refine ⟨_, rfl, w, ns, p, rfl, by omega, vx.2.2.1, _, rfl, w, ns, q, rfl, by omega, vx.2.2.2, ?_⟩
      refine ⟨_, _, rfl, ?_, rfl⟩
      rw [es]
      omega
    | rnd n p =>
      rw [Rw.Vd] at vx
      rw [Rw.st] at es
      rw [Rw.r]
      refine ⟨_, rfl, noT rowW.2.2.2.2.2, fun _ => ⟨_, rfl, fun _ => ?_, noF (decide_eq_true rfl)⟩⟩
      refine ⟨_, rfl, _, rfl, w, ns, p, rfl, by omega, vx.2.2, .inl (.inl ⟨by omega, by omega⟩), _, _, rfl, ?_, rfl⟩
      rw [es, Int.natCast_add, Int.natCast_add, Int.natCast_mul]
      omega
  · rintro g' M' ⟨s2, v, rfl, rfl, rfl⟩
    rw [rl_map, List.length_map, List.take_length]
    exact ⟨_, Sub.rfl', hQ⟩
end
section
variable {P : Program} {w : World} {K : PySem.W.Frag} {mg : Str → Option Value} {base : Heap}
/-- what isn't a program is refused; of a program that has the form what is wrong is told -/
def spWrongX (K : PySem.W.Frag) : DSp := fun rs M Q xw => ∃ r : R, rs = [r] ∧ Dt 31 r ∧ r.cnt ≤ 10000 ∧ ((isProgR r = false ∧ ∀ M', Sub M M' → xw (.ref (He.ga K "BadProgram")) none M') ∨
  ∃ (w : Nat) (names ns : List Str) (xs : List Rw), r = progR w ns xs ∧ PfOk w names ns xs ∧ ∀ M', Sub M M' → Q (wrongR (wrongO ns xs)) M')
theorem ok_first_wrong (T : Txt w K mg) : DFn P w K mg base 29 (He.ga K "first_wrong") T.d_first_wrong ["program"] ((spWrongX K)) := by
  refine dfn_of T.F_first_wrong sc_first_wrong (fun cdv A outer s H E hr tk hp => ⟨_, (dss_cons (ds_if (dt_not (dt_val (de_call (ok_is_program T) (hr.mono (by decide)) T.g_is_program T.F_is_program.kp (b_is_program T) tk (da_cons (de_var 0) da_nil)))) (dss_cons (ds_raise0 rfl tk (xs_BadProgram T) T.g_BadProgram (xc_BadProgram T))
    dss_nil) dss_nil)
    (dss_cons (ds_if (dt_cmp op_ltU sim_lt (de_lenSetG rfl T.n_len T.n_set (de_ix (de_var 0) de_int)) (de_callB call_lenU sc_len T.n_len (da_cons (de_ix (de_var 0) de_int) da_nil))) (dss_cons (ds_ret (de_tup (da_cons (de_neg de_int) (da_cons de_str da_nil))))
    dss_nil) dss_nil)
    (dss_cons (ds_set 1 sc_first_wrong.nd (de_call (ok_first_lacking T 6) (hr.mono (by decide)) T.g_first_lacking T.F_first_lacking.kp (b_first_lacking T) tk (da_cons (de_ix (de_var 0) de_int) (da_cons (de_callTy call_lstU sc_lst T.n_list (da_cons (de_ix (de_var 0) de_int) da_nil)) (da_cons de_int da_nil)))))
    (dss_cons (ds_if (dt_cmp op_notU sim_isnot (de_var 1) de_non) (dss_cons (ds_ret (de_tup (da_cons (de_var 1) (da_cons de_str da_nil))))
    dss_nil) dss_nil)
    (dss_cons (ds_ret (de_if (dt_cmp op_gt sim_B0 (de_call (ok_steps_of T 6) (hr.mono (by decide)) T.g_steps_of T.F_steps_of.kp (b_steps_of T) tk (da_cons (de_ix (de_var 0) de_int) da_nil)) (de_gint T.c_MOST_STEPS)) (de_tup (da_cons (de_neg de_int) (da_cons de_str da_nil))) de_non))
    dss_nil))))), fun rs M Q xw h hl => ?_⟩)
  have sl : sizeLine = 16777216 := by decide
  obtain ⟨r, rfl, hd, hc, ⟨hno, hx⟩ | ⟨w, names, ns, xs, rfl, p, hQ⟩⟩ := h
  · refine ⟨r, rfl, hd, hc, fun M1 s1 => ?_⟩
    rw [hno]
    exact ⟨fun _ => ⟨_, Sub.rfl', hx _ s1⟩, noF rfl⟩
  refine ⟨_, rfl, hd, hc, fun M1 s1 => ?_⟩
  rw [prog_yes p]
  refine ⟨noT rfl, fun _ => ?_⟩
  have p3 := p.nl
  have p5 := p.ct
  have ll : (ns.map R.str).length = ns.length := List.length_map ..
  have dl := dst_le ns
  unfold wrongO at hQ
  refine ⟨_, rfl, ns, rfl, by omega, _, rfl, fun z => ?_, fun z => ?_⟩
  · have z' : ((dstN ns : Nat) : Int) < ((ns.map R.str).length : Int) := of_decide_eq_true z
    rw [ll] at z'
    have nd : ¬ ns.Nodup := fun q => by have := (dst_eq ns).mpr q; omega
    rw [if_pos nd] at hQ
    exact ⟨_, Sub.rfl', hQ _ s1⟩
  · have z' : ¬ ((dstN ns : Nat) : Int) < ((ns.map R.str).length : Int) := of_decide_eq_false z
    rw [ll] at z'
    have nd : ns.Nodup := (dst_eq ns).mp (by omega)
    rw [if_neg (fun q => q nd)] at hQ
    refine ⟨_, rfl, _, rfl, _, rfl, w, names, ns, xs, 0, rfl, by decide, by decide, p.vd, by omega, fun M2 s2 => ?_⟩
    have s12 : Sub M M2 := fun b u e => s2 _ _ (s1 _ _ e)
    cases hl : Rw.lkl xs ns 0 with
    | some q =>
      rw [hl] at hQ
      exact ⟨fun _ => ⟨_, Sub.rfl', hQ _ s12⟩, noF rfl⟩
    | none =>
      rw [hl] at hQ
      have hQ : ∀ M', Sub M M' → Q (wrongR (if 2000 < Rw.stl xs then some (-1, "long") else none)) M' := hQ
      refine ⟨noT rfl, fun _ => ⟨_, rfl, w, names, xs, rfl, by decide, p.vd, fun z2 => ?_, fun z2 => ?_⟩⟩
      · have : (2000 : Int) < (Rw.stl xs : Int) := of_decide_eq_true z2
        rw [if_pos (by omega)] at hQ
        exact ⟨_, Sub.rfl', hQ _ s12⟩
      · have : ¬ (2000 : Int) < (Rw.stl xs : Int) := of_decide_eq_false z2
        rw [if_neg (by omega)] at hQ
        exact ⟨_, Sub.rfl', hQ _ s12⟩
end
section
variable {P : Program} {w : World} {K : PySem.W.Frag} {mg : Str → Option Value} {base : Heap}
theorem ok_Unsound_init (T : Txt w K mg) : FnOk P w K mg base (L2.CX P w) 1 (He.ma K (He.ga K "Unsound") "__init__") T.d_Unsound_init ["self", "place", "what"] (initSp K "place" "what") := by
  refine FunD.ok T.F_Unsound_init sc_Unsound_init (fun vs H Q E h => ?_) (fun cdv A outer s H vs Q E hr hsp => ?_)
  · obtain ⟨a, C, v1, v2, rfl, _⟩ := h; rfl
  · exact init_pss T.g_BitError T.x_.b1 T.x_.b2 T.x_.b3 (ptx_add (ptx_add (ptx_add (ptx_str 10) (ptx_v1 T.n_str)) (ptx_str 2)) (ptx_v2 T.n_str)) (pe_binit T.g_BitError T.x_.b1 T.x_.b2 T.x_.b3 (pa_cons (pe_var (i := 0) rfl (Or.inl rfl) (by decide) (by decide)) (pa_cons (ptx_add (ptx_add (ptx_add (ptx_str 10) (ptx_v1 T.n_str)) (ptx_str 2)) (ptx_v2 T.n_str)).ex.choose_spec.1 pa_nil rfl) rfl)) rfl (pe_var (i := 0) rfl (Or.inl rfl) (by decide) (by decide)) (pe_var (i := 0) rfl (Or.inl rfl) (by decide) (by decide)) (pe_var (i := 1) rfl (Or.inl rfl) (by decide) (by decide)) (pe_var (i := 2) rfl (Or.inl rfl) (by decide) (by decide)) rfl rfl (by decide) hsp
end
section
variable {P : Program} {w : World} {K : PySem.W.Frag} {mg : Str → Option Value} {base : Heap}
def spNeedX (K : PySem.W.Frag) : DSp := fun rs M Q xw => ∃ r : R, rs = [r] ∧ Dt 31 r ∧ r.cnt ≤ 10000 ∧ ((isProgR r = false ∧ ∀ M', Sub M M' → xw (.ref (He.ga K "BadProgram")) none M') ∨
  ∃ (w : Nat) (names ns : List Str) (xs : List Rw), r = progR w ns xs ∧ PfOk w names ns xs ∧ (wrongO ns xs = none → ∀ M', Sub M M' → Q .non M') ∧
    ∀ pl t, wrongO ns xs = some (pl, t) → ∀ M', Sub M M' → xw (.ref (He.ga K "Unsound")) (some [("what", .str t), ("place", .int pl)]) M')
mutual
theorem lkw_lt : ∀ (x : Rw) (known : List Str) (pl q : Int), x.lkw known pl = some q → pl ≤ q ∧ q + 1 < pl + (x.ct : Nat)
  | .set _ _, _, _, _, e => by rw [Rw.lkw] at e; cases e
  | .tell _, _, _, _, e => by rw [Rw.lkw] at e; cases e
  | .iff a p r, known, pl, q, e => by
    rw [Rw.lkw] at e
    rw [Rw.ct]
    cases h : Rw.lkl p known pl with
    | some z =>
      rw [h] at e
      cases e
      have := lkl_lt p known pl q h
      omega
    | none =>
      rw [h] at e
      have := lkl_lt r known _ q e
      omega
  | .rnd k p, known, pl, q, e => by
    rw [Rw.lkw] at e
    rw [Rw.ct]
    have := lkl_lt p known pl q e
    omega
theorem lkl_lt : ∀ (xs : List Rw) (known : List Str) (pl q : Int), Rw.lkl xs known pl = some q → pl ≤ q ∧ q < pl + (Rw.ctl xs : Nat)
  | [], _, _, _, e => by rw [Rw.lkl] at e; cases e
  | x :: xs, known, pl, q, e => by
    have c1 : 1 ≤ x.ct := by rw [inn_ct]; omega
    rw [Rw.lkl] at e
    rw [Rw.ctl]
    split at e
    · cases h : x.lkw known (pl + 1) with
      | some z =>
        rw [h] at e
        cases e
        have := lkw_lt x known (pl + 1) q h
        omega
      | none =>
        rw [h] at e
        have := lkl_lt xs _ _ q e
        omega
    · cases e
      omega
end
theorem wrong_text {ns : List Str} {xs : List Rw} (hc : Rw.ctl xs ≤ 1000) {pl : Int} {t : Str} (h : wrongO ns xs = some (pl, t)) : pl.natAbs < 2 ^ 128 ∧ t.length ≤ 200 ∧ -1 ≤ pl ∧ (t = "name" ∨ t = "long") := by
  unfold wrongO at h
  split at h
  · cases h; exact ⟨by decide, by decide, by decide, .inl rfl⟩
  · split at h
    · rename_i q hq
      cases h
      have := lkl_lt xs ns 0 _ hq
      exact ⟨by omega, by decide, by omega, .inl rfl⟩
    · split at h
      · cases h; exact ⟨by decide, by decide, by decide, .inr rfl⟩
      · cases h
theorem ok_need_program (T : Txt w K mg) : DFn P w K mg base 30 (He.ga K "need_program") T.d_need_program ["thing"] ((spNeedX K)) := by
  refine dfn_of T.F_need_program sc_need_program (fun cdv A outer s H E hr tk hp => ⟨_, (dss_cons (ds_set 1 sc_need_program.nd (de_call (ok_first_wrong T) (hr.mono (by decide)) T.g_first_wrong T.F_first_wrong.kp (b_first_wrong T) tk (da_cons (de_var 0) da_nil)))
    (dss_cons (ds_if (dt_cmp op_notU sim_isnot (de_var 1) de_non) (dss_cons (ds_raise2 rfl tk (xi_Unsound T) (ok_Unsound_init T) (hr.mono (by decide)) (b_Unsound_init T) T.g_Unsound (da_cons (de_ix (de_var 1) de_int) (da_cons (de_ix (de_var 1) de_int) da_nil)))
    dss_nil) dss_nil)
    dss_nil)), fun rs M Q xw h hl => ?_⟩)
  obtain ⟨r, rfl, hd, hc, ⟨hno, hx⟩ | ⟨w, names, ns, xs, rfl, p, hQ, hX⟩⟩ := h
  · exact ⟨r, rfl, hd, hc, .inl ⟨hno, fun M' s => ⟨_, Sub.rfl', hx _ s⟩⟩⟩
  refine ⟨_, rfl, hd, hc, .inr ⟨w, names, ns, xs, rfl, p, fun M1 s1 => ?_⟩⟩
  cases hw : wrongO ns xs with
  | none => exact ⟨noT rfl, fun _ => ⟨_, Sub.rfl', hQ hw _ s1⟩⟩
  | some q =>
    obtain ⟨pl, t⟩ := q
    have b := wrong_text (by have := p.ct; omega) hw
    exact ⟨fun _ => ⟨_, at0, _, at1, b.1, b.2.1, _, Sub.rfl', hX pl t hw _ s1⟩, noF rfl⟩
end
section
variable {P : Program} {w : World} {K : PySem.W.Frag} {mg : Str → Option Value} {base : Heap}
/-- what a function asks and gives whose first thing is a program: refused, or good -/
def ProgX (K : PySem.W.Frag) (r : R) (M : MH) (xw : DX) (good : Nat → List Str → List Str → List Rw → Prop) : Prop := Dt 31 r ∧ r.cnt ≤ 10000 ∧ ((isProgR r = false ∧ ∀ M', Sub M M' → xw (.ref (He.ga K "BadProgram")) none M') ∨
  ∃ (w : Nat) (names ns : List Str) (xs : List Rw), r = progR w ns xs ∧ PfOk w names ns xs ∧ (wrongO ns xs = none → good w names ns xs) ∧
    ∀ pl t, wrongO ns xs = some (pl, t) → ∀ M', Sub M M' → xw (.ref (He.ga K "Unsound")) (some [("what", .str t), ("place", .int pl)]) M')
theorem ProgX.imp {K : PySem.W.Frag} {r : R} {M : MH} {xw xw2 : DX} {good good2 : Nat → List Str → List Str → List Rw → Prop} (h : ProgX K r M xw good) (hx : ∀ c fs M', Sub M M' → xw c fs M' → xw2 c fs M')
    (hg : ∀ w names ns xs, r = progR w ns xs → PfOk w names ns xs → wrongO ns xs = none → good w names ns xs → good2 w names ns xs) : ProgX K r M xw2 good2 := by
  obtain ⟨h1, h2, ⟨h3, h4⟩ | ⟨w, names, ns, xs, e, p, h5, h6⟩⟩ := h
  · exact ⟨h1, h2, .inl ⟨h3, fun M' s => hx _ _ _ s (h4 M' s)⟩⟩
  · exact ⟨h1, h2, .inr ⟨w, names, ns, xs, e, p, fun z => hg w names ns xs e p z (h5 z), fun pl t z M' s => hx _ _ _ s (h6 pl t z M' s)⟩⟩
theorem lk_all {us known : List Str} : us.all (fun a => decide (a ∈ known)) = true ↔ ∀ a ∈ us, a ∈ known := by
  rw [List.all_eq_true]
  exact ⟨fun h a ha => of_decide_eq_true (h a ha), fun h a ha => decide_eq_true (h a ha)⟩
mutual
theorem lkw_so : ∀ (x : Rw) (known : List Str) (pl : Int), (x.us.all (fun a => decide (a ∈ known)) = true ∧ x.lkw known pl = none) ↔ x.So known
  | .set a e, known, pl => by
    rw [Rw.lkw, Rw.So, lk_all]
    exact ⟨fun h => h.1, fun h => ⟨h, rfl⟩⟩
  | .tell a, known, pl => by
    rw [Rw.lkw, Rw.So, lk_all]
    exact ⟨fun h => h.1 a (List.mem_singleton.mpr rfl), fun h => ⟨fun b hb => (by rw [List.mem_singleton.mp hb]; exact h), rfl⟩⟩
  | .iff a p q, known, pl => by
    rw [Rw.lkw, Rw.So, lk_all]
    have h1 := lkl_so p known pl
    have h2 := lkl_so q known (pl + (Rw.ctl p : Nat))
    constructor
    · intro ⟨g1, g2⟩
      cases hp : Rw.lkl p known pl with
      | some z => rw [hp] at g2; cases g2
      | none =>
        rw [hp] at g2
        exact ⟨g1 a (List.mem_singleton.mpr rfl), h1.mp hp, h2.mp g2⟩
    · intro ⟨g1, g2, g3⟩
      refine ⟨fun b hb => (by rw [List.mem_singleton.mp hb]; exact g1), ?_⟩
      rw [h1.mpr g2]
      exact h2.mpr g3
  | .rnd n p, known, pl => by
    rw [Rw.lkw, Rw.So, lk_all]
    have h1 := lkl_so p known pl
    exact ⟨fun h => h1.mp h.2, fun h => ⟨fun b hb => (by cases hb), h1.mpr h⟩⟩
theorem lkl_so : ∀ (xs : List Rw) (known : List Str) (pl : Int), Rw.lkl xs known pl = none ↔ Rw.Sol known xs
  | [], known, pl => by rw [Rw.lkl, Rw.Sol]; exact ⟨fun _ => True.intro, fun _ => rfl⟩
  | x :: xs, known, pl => by
    rw [Rw.lkl, Rw.Sol]
    have h1 := lkw_so x known (pl + 1)
    have h2 := lkl_so xs (x.th known) (pl + (x.ct : Nat))
    constructor
    · intro g
      split at g
      · rename_i ha
        cases hp : x.lkw known (pl + 1) with
        | some z => rw [hp] at g; cases g
        | none =>
          rw [hp] at g
          exact ⟨h1.mp ⟨ha, hp⟩, h2.mp g⟩
      · cases g
    · intro ⟨g1, g2⟩
      obtain ⟨ha, hp⟩ := h1.mpr g1
      rw [if_pos ha, hp]
      exact h2.mpr g2
end
theorem wrong_none {ns : List Str} {xs : List Rw} (h : ns.Nodup) (hs : Rw.Sol ns xs) (ht : Rw.stl xs ≤ 2000) : wrongO ns xs = none := by
  unfold wrongO
  rw [if_neg (fun q => q h), (lkl_so xs ns 0).mpr hs]
  show (if 2000 < Rw.stl xs then some ((-1 : Int), ("long" : Str)) else none) = none
  rw [if_neg (by omega)]
theorem PgOk.wrong {w : Nat} {names ns : List Str} {xs : List Rw} (p : PgOk w names ns xs) : wrongO ns xs = none := wrong_none p.nd p.so p.st
end
section
variable {P : Program} {w : World} {K : PySem.W.Frag} {mg : Str → Option Value} {base : Heap}
def spPlacesX (K : PySem.W.Frag) : DSp := fun rs M Q xw => ∃ r : R, rs = [r] ∧ ProgX K r M xw fun w names ns xs => ∀ M', Sub M M' → Q (.lst (Rw.all xs)) M'
def spPlacesXO (K : PySem.W.Frag) : DSp := fun rs M Q xw => ∃ r : R, rs = [r] ∧ ProgX K r M xw fun w names ns xs => ∀ M' o, Sub M M' → M o = none → M' o = some (.lst (Rw.all xs)) → Q (.o o) M'
theorem oko_places_of (T : Txt w K mg) : DFn P w K mg base 31 (He.ga K "places_of") T.d_places_of ["program"] ((spPlacesXO K)) := by
  refine dfn_of T.F_places_of sc_places_of (fun cdv A outer s H E hr tk hp => ⟨_, (dss_cons (ds_expr (de_call (ok_need_program T) (hr.mono (by decide)) T.g_need_program T.F_need_program.kp (b_need_program T) tk (da_cons (de_var 0) da_nil)))
    (dss_cons (ds_ret (de_call (oko_rows_within T 6) (hr.mono (by omega)) T.g_rows_within T.F_rows_within.kp (b_rows_within T) tk (da_cons (de_ix (de_var 0) de_int) da_nil)))
    dss_nil)), fun rs M Q xw h hl => ?_⟩)
  obtain ⟨r, rfl, hp⟩ := h
  have hp2 : ProgX K r M (fun c fs M' => ∃ M1, Sub M1 M' ∧ xw c fs M1) fun w names ns xs => ∀ M' o, Sub M M' → M o = none → M' o = some (.lst (Rw.all xs)) → Q (.o o) M' := hp.imp (fun c fs M' _ z => ⟨_, Sub.rfl', z⟩) fun w names ns xs _ _ _ z => z
  obtain ⟨h1, h2, h3 | ⟨w, names, ns, xs, rfl, p, g1, g2⟩⟩ := hp2
  · exact ⟨r, rfl, h1, h2, .inl h3⟩
  refine ⟨_, rfl, h1, h2, .inr ⟨w, names, ns, xs, rfl, p, fun z M1 s1 => ?_, g2⟩⟩
  have pct := p.ct
  refine ⟨_, rfl, w, names, xs, rfl, by decide, p.vd, by omega, fun M2 o s2 ho hO => ?_⟩
  have n : M o = none := by
    cases q : M o with
    | none => rfl
    | some u => have := s1 _ _ q; rw [ho] at this; cases this
  exact ⟨_, Sub.rfl', g1 z _ _ (Sub.trans s1 s2) n hO⟩
theorem okx_places_of (T : Txt w K mg) : DFn P w K mg base 31 (He.ga K "places_of") T.d_places_of ["program"] (spPlacesX K) := ((oko_places_of T).fzS).imp fun rs M Q xw ⟨r, e, hp⟩ =>
  ⟨r, e, hp.imp (fun c fs M' _ z => z) fun w names ns xs _ _ _ z M' o s n h => ⟨_, h, z _ (sub_erase s n)⟩⟩
end
section
variable {P : Program} {w : World} {K : PySem.W.Frag} {mg : Str → Option Value} {base : Heap}
theorem szW : inR (.str "set") [.str "if", .str "round"] = false ∧ inR (.str "tell") [.str "if", .str "round"] = false ∧ inR (.str "if") [.str "if", .str "round"] = true ∧ inR (.str "round") [.str "if", .str "round"] = true := by decide +kernel
/-- the rows within, as the law takes them -/
theorem szX (x : Rw) : ∃ (y : Str) (b : Bool) (tl : List R), x.r = .tup (.str y :: tl) ∧ inR (.str y) [.str "if", .str "round"] = b ∧ (b = true → cutR (R.str y :: tl) (some 2) none = x.inn.map fun p => R.tup (Rw.rl p)) ∧ (b = false → x.inn = []) ∧ (cutR (R.str y :: tl) (some 2) none).length ≤ 2 := by
  cases x with
  | set a e =>
    have c : cutR [R.str "set", .str a, e.r] (some ((2 : Nat) : Int)) none = [e.r] := cutDrop (by show 2 ≤ 3; omega)
    exact ⟨"set", false, [.str a, e.r], by rw [Rw.r], szW.1, fun z => (by cases z), fun _ => rfl, Nat.le_trans (Nat.le_of_eq (congrArg List.length c)) (by show 1 ≤ 2; omega)⟩
  | tell a =>
    have c : cutR [R.str "tell", .str a] (some ((2 : Nat) : Int)) none = [] := cutDrop (by show 2 ≤ 2; omega)
    exact ⟨"tell", false, [.str a], by rw [Rw.r], szW.2.1, fun z => (by cases z), fun _ => rfl, Nat.le_trans (Nat.le_of_eq (congrArg List.length c)) (by show 0 ≤ 2; omega)⟩
  | iff a p q =>
    have c : cutR [R.str "if", .str a, .tup (Rw.rl p), .tup (Rw.rl q)] (some ((2 : Nat) : Int)) none = [.tup (Rw.rl p), .tup (Rw.rl q)] := cutDrop (by show 2 ≤ 4; omega)
    exact ⟨"if", true, [.str a, .tup (Rw.rl p), .tup (Rw.rl q)], by rw [Rw.r], szW.2.2.1, fun _ => c, fun z => (by cases z), Nat.le_trans (Nat.le_of_eq (congrArg List.length c)) (by show 2 ≤ 2; omega)⟩
  | rnd k p =>
    have c : cutR [R.str "round", .int (k : Int), .tup (Rw.rl p)] (some ((2 : Nat) : Int)) none = [.tup (Rw.rl p)] := cutDrop (by show 2 ≤ 3; omega)
    exact ⟨"round", true, [.int (k : Int), .tup (Rw.rl p)], by rw [Rw.r], szW.2.2.2, fun _ => c, fun z => (by cases z), Nat.le_trans (Nat.le_of_eq (congrArg List.length c)) (by show 1 ≤ 2; omega)⟩
end
section
variable {P : Program} {w : World} {K : PySem.W.Frag} {mg : Str → Option Value} {base : Heap}
mutual
/-- the places of the set rows -/
def Rw.sp : Rw → Nat → List Nat
  | .set _ _, n => [n]
  | .tell _, _ => []
  | .iff _ p q, n => Rw.spl p (n + 1) ++ Rw.spl q (n + 1 + Rw.ctl p)
  | .rnd _ p, n => Rw.spl p (n + 1)
def Rw.spl : List Rw → Nat → List Nat
  | [], _ => []
  | x :: xs, n => x.sp n ++ Rw.spl xs (n + x.ct)
end
mutual
theorem sp_lt : ∀ (x : Rw) (n : Nat), (x.sp n).Pairwise (· < ·) ∧ ∀ k ∈ x.sp n, n ≤ k ∧ k < n + x.ct
  | .set _ _, n => ⟨by rw [Rw.sp]; exact List.pairwise_singleton _ _, fun k hk => by rw [Rw.sp] at hk; rw [List.mem_singleton.mp hk, Rw.ct]; omega⟩
  | .tell _, n => ⟨by rw [Rw.sp]; exact List.Pairwise.nil, fun k hk => by rw [Rw.sp] at hk; cases hk⟩
  | .iff _ p q, n => by
    obtain ⟨h1, h2⟩ := spl_lt p (n + 1)
    obtain ⟨h3, h4⟩ := spl_lt q (n + 1 + Rw.ctl p)
    rw [Rw.sp, Rw.ct]
    refine ⟨List.pairwise_append.mpr ⟨h1, h3, fun a ha b hb => ?_⟩, fun k hk => ?_⟩
    · have := h2 a ha
      have := h4 b hb
      omega
    · rcases List.mem_append.mp hk with h | h
      · have := h2 k h; omega
      · have := h4 k h; omega
  | .rnd _ p, n => by
    obtain ⟨h1, h2⟩ := spl_lt p (n + 1)
    rw [Rw.sp, Rw.ct]
    exact ⟨h1, fun k hk => by have := h2 k hk; omega⟩
theorem spl_lt : ∀ (xs : List Rw) (n : Nat), (Rw.spl xs n).Pairwise (· < ·) ∧ ∀ k ∈ Rw.spl xs n, n ≤ k ∧ k < n + Rw.ctl xs
  | [], n => ⟨by rw [Rw.spl]; exact List.Pairwise.nil, fun k hk => by rw [Rw.spl] at hk; cases hk⟩
  | x :: xs, n => by
    obtain ⟨h1, h2⟩ := sp_lt x n
    obtain ⟨h3, h4⟩ := spl_lt xs (n + x.ct)
    rw [Rw.spl, Rw.ctl]
    refine ⟨List.pairwise_append.mpr ⟨h1, h3, fun a ha b hb => ?_⟩, fun k hk => ?_⟩
    · have := h2 a ha
      have := h4 b hb
      omega
    · rcases List.mem_append.mp hk with h | h
      · have := h2 k h; omega
      · have := h4 k h; omega
end
mutual
theorem sp_len : ∀ (x : Rw) (n : Nat), (x.sp n).length ≤ x.ct
  | .set _ _, n => by rw [Rw.sp, Rw.ct]; exact Nat.le_refl _
  | .tell _, n => by rw [Rw.sp, Rw.ct]; exact Nat.zero_le _
  | .iff _ p q, n => by
    have := spl_len p (n + 1)
    have := spl_len q (n + 1 + Rw.ctl p)
    rw [Rw.sp, Rw.ct, List.length_append]; omega
  | .rnd _ p, n => by
    have := spl_len p (n + 1)
    rw [Rw.sp, Rw.ct]; omega
theorem spl_len : ∀ (xs : List Rw) (n : Nat), (Rw.spl xs n).length ≤ Rw.ctl xs
  | [], n => by rw [Rw.spl]; exact Nat.zero_le _
  | x :: xs, n => by
    have := sp_len x n
    have := spl_len xs (n + x.ct)
    rw [Rw.spl, Rw.ctl, List.length_append]; omega
end
theorem stW : decide (("set" : Str) = "set") = true ∧ decide (("tell" : Str) = "set") = false ∧ decide (("if" : Str) = "set") = false ∧ decide (("round" : Str) = "set") = false := by decide +kernel
end
section
variable {P : Program} {w : World} {K : PySem.W.Frag} {mg : Str → Option Value} {base : Heap}
def isSetR : R → Bool
  | .tup (.str y :: _) => decide (y = "set")
  | _ => false
def setsAt : List R → Nat → List Nat
  | [], _ => []
  | r :: rs, n => (if isSetR r = true then [n] else []) ++ setsAt rs (n + 1)
theorem setsAt_app : ∀ (rs qs : List R) (n : Nat), setsAt (rs ++ qs) n = setsAt rs n ++ setsAt qs (n + rs.length)
  | [], qs, n => by rw [List.nil_append, setsAt]; rfl
  | r :: rs, qs, n => by rw [List.cons_append, setsAt, setsAt, setsAt_app rs, List.length_cons, List.append_assoc, Nat.add_assoc, Nat.add_comm 1]
mutual
theorem setsAt_al : ∀ (x : Rw) (n : Nat), setsAt x.al n = x.sp n
  | .set a e, n => by
    rw [Rw.al, Rw.r, setsAt, setsAt, Rw.sp, List.append_nil]
    exact if_pos stW.1
  | .tell a, n => by
    rw [Rw.al, Rw.r, setsAt, setsAt, Rw.sp, List.append_nil]
    exact if_neg (fun z : decide (("tell" : Str) = "set") = true => by rw [stW.2.1] at z; cases z)
  | .iff a p q, n => by
    rw [Rw.al, Rw.r, setsAt, Rw.sp, setsAt_app, setsAt_all p, setsAt_all q, all_len]
    exact (congrArg (· ++ _) (if_neg (fun z : decide (("if" : Str) = "set") = true => by rw [stW.2.2.1] at z; cases z))).trans (List.nil_append _)
  | .rnd a p, n => by
    rw [Rw.al, Rw.r, setsAt, Rw.sp, setsAt_all p]
    exact (congrArg (· ++ _) (if_neg (fun z : decide (("round" : Str) = "set") = true => by rw [stW.2.2.2] at z; cases z))).trans (List.nil_append _)
theorem setsAt_all : ∀ (xs : List Rw) (n : Nat), setsAt (Rw.all xs) n = Rw.spl xs n
  | [], n => by rw [Rw.all, Rw.spl, setsAt]
  | x :: xs, n => by rw [Rw.all, Rw.spl, setsAt_app, setsAt_al x, setsAt_all xs, al_len]
end
mutual
theorem al_r : ∀ (x : Rw), ∀ r ∈ x.al, ∃ x : Rw, r = x.r
  | .set a e, r, hr => by rw [Rw.al] at hr; exact ⟨_, List.mem_singleton.mp hr⟩
  | .tell a, r, hr => by rw [Rw.al] at hr; exact ⟨_, List.mem_singleton.mp hr⟩
  | .iff a p q, r, hr => by
    rw [Rw.al] at hr
    rcases List.mem_cons.mp hr with hr | hr
    · exact ⟨_, hr⟩
    · rcases List.mem_append.mp hr with hr | hr
      · exact all_r p r hr
      · exact all_r q r hr
  | .rnd a p, r, hr => by
    rw [Rw.al] at hr
    rcases List.mem_cons.mp hr with hr | hr
    · exact ⟨_, hr⟩
    · exact all_r p r hr
theorem all_r : ∀ (xs : List Rw), ∀ r ∈ Rw.all xs, ∃ x : Rw, r = x.r
  | [], r, hr => by rw [Rw.all] at hr; cases hr
  | x :: xs, r, hr => by
    rw [Rw.all] at hr
    rcases List.mem_append.mp hr with hr | hr
    · exact al_r x r hr
    · exact all_r xs r hr
end
theorem setsAt_take {rs : List R} {i : Nat} {r : R} (h : rs[i]? = some r) : setsAt (rs.take (i + 1)) 0 = setsAt (rs.take i) 0 ++ (if isSetR r = true then [i] else []) := by
  have l : (rs.take i).length = i := by
    rw [List.length_take]
    have := (List.getElem?_eq_some_iff.mp h).1
    omega
  rw [List.take_succ, h, setsAt_app, l, Nat.zero_add]
  show _ ++ setsAt [r] i = _
  rw [setsAt, setsAt, List.append_nil]
def spSetPlacesX (K : PySem.W.Frag) : DSp := fun rs M Q xw => ∃ r : R, rs = [r] ∧ ProgX K r M xw fun w names ns xs => ∀ M', Sub M M' → Q (.lst (natL (Rw.spl xs 0))) M'
def spSetPlacesXO (K : PySem.W.Frag) : DSp := fun rs M Q xw => ∃ r : R, rs = [r] ∧ ProgX K r M xw fun w names ns xs => ∀ M' o, Sub M M' → M o = none → M' o = some (.lst (natL (Rw.spl xs 0))) → Q (.o o) M'
theorem oko_set_places (T : Txt w K mg) : DFn P w K mg base 32 (He.ga K "set_places") T.d_set_places ["program"] ((spSetPlacesXO K)) := by
  refine dfn_of T.F_set_places sc_set_places (fun cdv A outer s H E hr tk hp => ⟨_, (dss_cons (ds_ret (de_lcO (own := [("place", 1), ("row", 2)]) rfl sc_set_places.nd (di_enum T.n_enumerate (de_call (okx_places_of T) (hr.mono (by omega)) T.g_places_of T.F_places_of.kp (b_places_of T) tk (da_cons (de_var 0) da_nil))) (blkOk_by (by show blkC ["program", "place", "row"] (defScope s_set_places) _ _ = true; decide +kernel)) (simc2 (by decide) (by decide)) (fun _ _ _ _ _ => (pg_tup rfl (pgs_cons (pg_name (i := 1) sc_set_places.nd rfl (Or.inl rfl)) (pgs_cons (pg_name (i := 2) sc_set_places.nd rfl (Or.inl rfl)) pgs_nil)))) (fun _ _ _ _ _ => (dts_one (dt_cmp (op_eqU hr.hu) sim_eq (de_ix (de_var 2) de_int) de_str))) (fun _ _ _ _ _ => (de_var 1))))
    dss_nil), fun rs M Q xw h hl => ?_⟩)
  have sl : sizeLine = 16777216 := by decide
  obtain ⟨r, rfl, hp⟩ := h
  refine ⟨r, rfl, hp.imp (fun c fs M' _ z => ⟨_, Sub.rfl', z⟩) fun w names ns xs _ p _ hQ M1 s1 => ?_⟩
  have pct := p.ct
  have le := all_len xs
  have ll : (enumR (Rw.all xs)).length = (Rw.all xs).length := by simp [enumR]
  refine ⟨by rw [ll]; omega, fun i acc M' => acc = natL (setsAt ((Rw.all xs).take i) 0) ∧ M' = M1, ⟨rfl, rfl⟩, ?_, ?_⟩
  · rintro i r acc M' hr _ ⟨rfl, rfl⟩
    obtain ⟨q, hq, rfl⟩ := enumR_get hr
    obtain ⟨x, rfl⟩ := all_r xs q (List.mem_of_getElem? hq)
    obtain ⟨y, b, tl, er, eb, ec, en, _⟩ := szX x
    have st := setsAt_take hq
    rw [er] at st ⊢
    have hat : atI (R.str y :: tl) 0 = some (.str y) := by rw [atI_nn (by decide) (by rw [List.length_cons]; omega)]; rfl
    refine ⟨rfl, .str y, hat, fun z => ⟨?_, rfl⟩, fun z => ⟨?_, rfl⟩⟩
    · have z1 : decide (y = "set") = true := z
      rw [st, show isSetR (.tup (R.str y :: tl)) = decide (y = "set") from rfl, if_pos z1]
      unfold natL
      rw [List.map_append]; rfl
    · have z1 : decide (y = "set") = false := z
      rw [st, show isSetR (.tup (R.str y :: tl)) = decide (y = "set") from rfl, if_neg (by rw [z1]; exact Bool.false_ne_true), List.append_nil]
  · rintro acc M' _ ⟨rfl, rfl⟩ o ho
    rw [ll, List.take_length, setsAt_all]
    exact ⟨_, Sub.rfl', hQ _ o (Sub.new s1 (by
      cases q : M o with
      | none => rfl
      | some u => have := s1 _ _ q; rw [ho] at this; cases this)) (by
      cases q : M o with
      | none => rfl
      | some u => have := s1 _ _ q; rw [ho] at this; cases this) updM_same⟩
theorem okx_set_places (T : Txt w K mg) : DFn P w K mg base 32 (He.ga K "set_places") T.d_set_places ["program"] (spSetPlacesX K) := ((oko_set_places T).fzS).imp fun rs M Q xw ⟨r, e, hp⟩ =>
  ⟨r, e, hp.imp (fun c fs M' _ z => z) fun w names ns xs _ _ _ z M' o s n h => ⟨_, h, z _ (sub_erase s n)⟩⟩
end
section
variable {P : Program} {w : World} {K : PySem.W.Frag} {mg : Str → Option Value} {base : Heap}
theorem whole_is {q : R} {n : Nat} (h : isWholeR q 0 ((n : Nat) - 1 : Int) = true) : ∃ k : Nat, q = .int (k : Int) ∧ k < n := by
  cases q with
  | int i =>
    have h' : (decide ((0 : Int) ≤ i) && decide (i ≤ (n : Int) - 1)) = true := h
    rw [Bool.and_eq_true] at h'
    have h1 := of_decide_eq_true h'.1
    have h2 := of_decide_eq_true h'.2
    exact ⟨i.toNat, by rw [Int.toNat_of_nonneg h1], by omega⟩
  | _ => cases h
def spNeedPlX (K : PySem.W.Frag) : DSp := fun rs M Q xw => ∃ (r q : R) (k : Nat), rs = [r, q] ∧ Dt k q ∧ ProgX K r M xw fun w names ns xs =>
  (isWholeR q 0 ((Rw.ctl xs : Nat) - 1 : Int) = true → ∀ M', Sub M M' → Q .non M') ∧ (isWholeR q 0 ((Rw.ctl xs : Nat) - 1 : Int) = false → ∀ M', Sub M M' → xw (.ref (He.ga K "BadPlace")) none M')
theorem okx_need_place (T : Txt w K mg) : DFn P w K mg base 32 (He.ga K "need_place") T.d_need_place ["program", "place"] ((spNeedPlX K)) := by
  refine dfn_of T.F_need_place sc_need_place (fun cdv A outer s H E hr tk hp => ⟨_, (dss_cons (ds_if (dt_not (dt_val (de_call (ok_is_whole T) (hr.mono (by decide)) T.g_is_whole T.F_is_whole.kp (b_is_whole T) tk (da_cons (de_var 1) (da_cons de_int (da_cons (de_op op_sub sim_I0 (de_callB call_lenU sc_len T.n_len (da_cons (de_call (okx_places_of T) (hr.mono (by omega)) T.g_places_of T.F_places_of.kp (b_places_of T) tk (da_cons (de_var 0) da_nil)) da_nil)) de_int) da_nil)))))) (dss_cons (ds_raise0 rfl tk (xs_BadPlace T) T.g_BadPlace (xc_BadPlace T))
    dss_nil) dss_nil)
    dss_nil), fun rs M Q xw h hl => ?_⟩)
  obtain ⟨r, q, k, rfl, hq, hp⟩ := h
  refine ⟨r, rfl, hp.imp (fun c fs M' _ z => ⟨_, Sub.rfl', z⟩) fun w names ns xs _ _ _ z M1 s1 => ?_⟩
  refine ⟨_, _, _, rfl, hq.kind, ?_⟩
  rw [all_len]
  cases e : isWholeR q 0 ((Rw.ctl xs : Nat) - 1 : Int) with
  | true => exact ⟨noT rfl, fun _ => ⟨_, Sub.rfl', z.1 e _ s1⟩⟩
  | false => exact ⟨fun _ => ⟨_, Sub.rfl', z.2 e _ s1⟩, noF rfl⟩
end
section
variable {P : Program} {w : World} {K : PySem.W.Frag} {mg : Str → Option Value} {base : Heap}
def naW (known : List Str) : List (List Rw) → Nat → Option (List Str)
  | [], _ => none
  | p :: ps, k => if k < Rw.ctl p then some (Rw.nal p known k) else naW known ps (k - Rw.ctl p)
theorem na_ways (x : Rw) (known : List Str) (k : Nat) (h : k + 1 < x.ct) : naW known x.inn k = some (x.na known (k + 1)) := by
  cases x with
  | set a e => rw [Rw.ct] at h; omega
  | tell a => rw [Rw.ct] at h; omega
  | iff a p q =>
    rw [Rw.ct] at h
    rw [Rw.inn, naW, naW, naW, Rw.na, if_neg (Nat.succ_ne_zero k), Nat.add_sub_cancel]
    split
    · rfl
    · rw [if_pos (by omega)]
  | rnd n p =>
    rw [Rw.ct] at h
    rw [Rw.inn, naW, naW, Rw.na, if_neg (Nat.succ_ne_zero k), Nat.add_sub_cancel, if_pos (by omega)]
theorem naW_drop (known : List Str) : ∀ (ps : List (List Rw)) (j k : Nat), naW known ps (k + ((ps.take j).map Rw.ctl).sum) = naW known (ps.drop j) k
  | [], j, k => by rw [List.take_nil, List.drop_nil, naW, naW]
  | p :: ps, 0, k => by rw [List.take_zero, List.drop_zero]; rfl
  | p :: ps, j + 1, k => by
    rw [List.take_succ_cons, List.drop_succ_cons, List.map_cons, List.sum_cons, naW, if_neg (by omega), ← naW_drop known ps j k]
    congr 1
    omega
theorem nal_take : ∀ (xs : List Rw) (i : Nat) (x : Rw) (known : List Str) (k : Nat), xs[i]? = some x → Rw.ctl (xs.take i) ≤ k → k < Rw.ctl (xs.take i) + x.ct → Rw.nal xs known k = x.na (Rw.thl known (xs.take i)) (k - Rw.ctl (xs.take i))
  | [], i, x, known, k, h, _, _ => by simp at h
  | y :: xs, 0, x, known, k, h, h1, h2 => by
    have e : y = x := by simpa using h
    subst e
    rw [List.take_zero, Rw.ctl] at h2 ⊢
    rw [Rw.nal, if_pos (by omega), Rw.thl, Nat.sub_zero]
  | y :: xs, i + 1, x, known, k, h, h1, h2 => by
    rw [List.take_succ_cons, Rw.ctl] at h1 h2 ⊢
    rw [Rw.nal, if_neg (by omega), Rw.thl, nal_take xs i x (y.th known) (k - y.ct) (by simpa using h) (by omega) (by omega)]
    congr 1
    omega
def spNaA (d : Nat) : DSp := fun rs M Q _ => ∃ (w : Nat) (ns known : List Str) (xs : List Rw) (k : Nat), rs = [.tup (Rw.rl xs), .lst (known.map R.str), .int (k : Int)] ∧ 1 ≤ d ∧ d ≤ 6 ∧ Rw.Vdl w ns d xs ∧ k < Rw.ctl xs ∧ known.length + Rw.ctl xs ≤ 900 ∧ ∀ M', Sub M M' → Q (.lst ((Rw.nal xs known k).map R.str)) M'
theorem spNaA_void : ∀ rs M Q xw, ¬ spNaA 0 rs M Q xw := fun _ _ _ _ ⟨_, _, _, _, _, _, h, _⟩ => by omega
theorem ok_names_ahead (T : Txt w K mg) : ∀ d : Nat, DFn P w K mg base (d + 22) (He.ga K "names_ahead") T.d_names_ahead ["rows", "known", "place"] (spNaA d)
 | 0 => dfn_void T.F_names_ahead sc_names_ahead spNaA_void
 | d + 1 => by
  refine dfn_of T.F_names_ahead sc_names_ahead (fun cdv A outer s H E hr tk hp => ⟨_, (dss_cons (ds_for hp rfl (di_tup (de_var 0)) (dg_name 3 sc_names_ahead.nd) (dss_cons (ds_if (dt_cmp (op_eqU hr.hu) sim_eq (de_var 2) de_int) (dss_cons (ds_ret (de_var 1))
    dss_nil) dss_nil)
    (dss_cons (ds_set 2 sc_names_ahead.nd (de_op op_sub sim_I0 (de_var 2) de_int))
    (dss_cons (ds_for hp rfl (di_list (de_call (ok_inner_rows T) (hr.mono (by omega)) T.g_inner_rows T.F_inner_rows.kp (b_inner_rows T) tk (da_cons (de_var 3) da_nil))) (dg_name 4 sc_names_ahead.nd) (dss_cons (ds_set 5 sc_names_ahead.nd (de_callB call_lenU sc_len T.n_len (da_cons (de_call (ok_rows_within T 6) (hr.mono (by omega)) T.g_rows_within T.F_rows_within.kp (b_rows_within T) tk (da_cons (de_var 4) da_nil)) da_nil)))
    (dss_cons (ds_if (dt_chain op_le op_ltU sim_B0 sim_lt de_int (de_var 2) (de_var 5)) (dss_cons (ds_ret (de_call (ok_names_ahead T d) (hr.mono (by omega)) T.g_names_ahead T.F_names_ahead.kp (b_names_ahead T) tk (da_cons (de_var 4) (da_cons (de_var 1) (da_cons (de_var 2) da_nil)))))
    dss_nil) dss_nil)
    (dss_cons (ds_set 2 sc_names_ahead.nd (de_op op_sub sim_I0 (de_var 2) (de_var 5)))
    dss_nil))))
    (dss_cons (ds_set 1 sc_names_ahead.nd (de_call (ok_names_behind T 6) (hr.mono (by omega)) T.g_names_behind T.F_names_behind.kp (b_names_behind T) tk (da_cons (de_var 3) (da_cons (de_var 1) da_nil))))
    dss_nil)))))
    (dss_cons (ds_ret (de_var 1))
    dss_nil)), fun rs M Q xw h hl => ?_⟩)
  obtain ⟨w, ns, known, xs, k, rfl, d1, d6, hv, hk, hc, hQ⟩ := h
  have sl : sizeLine = 16777216 := by decide
  refine ⟨fun i g' M' => ∃ (k' : Nat) (s3 s4 s5 : Option R), g' = [some (.tup (Rw.rl xs)), some (.lst ((Rw.thl known (xs.take i)).map R.str)), some (.int (k' : Int)), s3, s4, s5] ∧ Sub M M' ∧ k' + Rw.ctl (xs.take i) = k, ⟨k, none, none, none, by rw [List.take_zero, Rw.thl]; rfl, Sub.rfl', by rw [List.take_zero, Rw.ctl, Nat.add_zero]⟩, ?_, ?_⟩
  · rintro i r g' M' hr ⟨k', s3, s4, s5, rfl, hM, ek⟩
    rw [rl_map, List.getElem?_map] at hr
    obtain ⟨x, hx, rfl⟩ := Option.map_eq_some_iff.mp hr
    have vx := vdl_mem hv (List.mem_of_getElem? hx)
    have e1 := ctl_take hx
    have e2 := ctl_take_le xs (i + 1)
    have e3 := thLen.2 (xs.take i) known
    have ci := inn_ct x
    have nt0 : k' < x.ct → Rw.nal xs known k = x.na (Rw.thl known (xs.take i)) k' := fun z => by
      rw [nal_take xs i x known k hx (by omega) (by omega), show k - Rw.ctl (xs.take i) = k' by omega]
    have et := thl_take hx known
    generalize hkn : Rw.thl known (xs.take i) = kn at nt0 e3 et
    refine ⟨fun z => ?_, fun z => ?_⟩
    · have z0 : k' = 0 := by have := of_decide_eq_true z; omega
      have cx : 1 ≤ x.ct := by omega
      have q := hQ M' hM
      rw [nt0 (by omega), z0, na0] at q
      exact ⟨_, Sub.rfl', q⟩
    · have z0 : k' ≠ 0 := fun y => by have := of_decide_eq_false z; omega
      refine nxG (g' := [some (.tup (Rw.rl xs)), some (.lst (kn.map R.str)), some (.int (k' : Int)), some x.r, s4, s5]) rfl ?_
      refine ⟨x, rfl, fun j g' M2 => ∃ (k2 : Nat) (s4 s5 : Option R), g' = [some (.tup (Rw.rl xs)), some (.lst (kn.map R.str)), some (.int (k2 : Int)), some x.r, s4, s5] ∧ Sub M M2 ∧ k2 + ((x.inn.take j).map Rw.ctl).sum = k' - 1, ⟨k' - 1, s4, s5, by rw [show ((k' - 1 : Nat) : Int) = (k' : Int) - 1 by omega]; rfl, hM, rfl⟩, ?_, ?_⟩
      · rintro j r g' M2 hr2 ⟨k2, s4, s5, rfl, hM2, ek2⟩
        rw [List.getElem?_map] at hr2
        obtain ⟨p, hp, rfl⟩ := Option.map_eq_some_iff.mp hr2
        have hpm := List.mem_of_getElem? hp
        have vp := inn_vd vx p hpm
        have cp : Rw.ctl p ≤ (x.inn.map Rw.ctl).sum := single_le_sum_nat (List.mem_map_of_mem hpm)
        have b1 := sum_take_le (x.inn.map Rw.ctl) (j + 1)
        have b2 : (x.inn.map Rw.ctl).take (j + 1) = (x.inn.take j).map Rw.ctl ++ [Rw.ctl p] := by
          rw [← List.map_take, List.take_succ, hp, List.map_append]; rfl
        rw [b2, List.sum_append, List.sum_singleton] at b1
        refine ⟨w, ns, p, rfl, by decide, vdl_mono (by omega) p vp.2, by omega, fun M3 s3 => ?_⟩
        have al := all_len p
        refine ⟨fun _ => ⟨fun y => ?_, fun y => ?_⟩, fun y => absurd (of_decide_eq_false y) (by omega)⟩
        · have lt : k2 < Rw.ctl p := by have := of_decide_eq_true y; rw [al] at this; omega
          have q := hQ
          have e := naW_drop kn x.inn j k2
          rw [ek2, na_ways x kn (k' - 1) (by omega), show k' - 1 + 1 = k' by omega] at e
          have ed : x.inn.drop j = p :: x.inn.drop (j + 1) := by
            obtain ⟨h1, h2⟩ := List.getElem?_eq_some_iff.mp hp
            rw [← h2]; exact List.drop_eq_getElem_cons h1
          rw [ed, naW, if_pos lt] at e
          rw [nt0 (by omega), Option.some.inj e] at q
          exact ⟨w, ns, kn, p, k2, rfl, vp.1, by omega, vp.2, lt, by omega, fun M4 s4 => ⟨_, Sub.rfl', q M4 (Sub.trans hM2 (Sub.trans s3 s4))⟩⟩
        · have lt : Rw.ctl p ≤ k2 := by have := of_decide_eq_false y; rw [al] at this; omega
          refine ⟨k2 - Rw.ctl p, some (.tup (Rw.rl p)), some (.int (((Rw.all p).length : Nat) : Int)), ?_, Sub.trans hM2 s3, ?_⟩
          · show _ = [some (.tup (Rw.rl xs)), some (.lst (kn.map R.str)), some (.int ((k2 - Rw.ctl p : Nat) : Int)), some x.r, some (.tup (Rw.rl p)), some (.int (((Rw.all p).length : Nat) : Int))]
            rw [show ((k2 - Rw.ctl p : Nat) : Int) = (k2 : Int) - (((Rw.all p).length : Nat) : Int) by rw [al]; omega]
            rfl
          · rw [List.take_succ, hp, List.map_append, List.sum_append]
            show k2 - Rw.ctl p + (_ + [Rw.ctl p].sum) = _
            rw [List.sum_singleton]; omega
      · rintro g' M2 ⟨k2, s4, s5, rfl, hM2, ek2⟩
        rw [List.length_map, List.take_length] at ek2
        refine ⟨w, ns, kn, x, rfl, by decide, vd_mono (by omega) x vx, by omega, ?_⟩
        exact ⟨k2, some x.r, s4, s5, by rw [et]; rfl, hM2, by omega⟩
  · rintro g' M' ⟨k', s3, s4, s5, rfl, hM, ek⟩
    have lr : (Rw.rl xs).length = xs.length := by rw [rl_map, List.length_map]
    rw [lr, List.take_length] at ek
    omega
end
section
variable {P : Program} {w : World} {K : PySem.W.Frag} {mg : Str → Option Value} {base : Heap}
def spNamesAtX (K : PySem.W.Frag) : DSp := fun rs M Q xw => ∃ (r q : R) (k : Nat), rs = [r, q] ∧ Dt k q ∧ ProgX K r M xw fun w names ns xs =>
  (∀ k : Nat, q = .int (k : Int) → k < Rw.ctl xs → (Rw.nal xs ns k).length ≤ 63 ∧ ∀ M' ys, Sub M M' → ys.Perm (Rw.nal xs ns k) → sortedS ys = true → Q (.lst (ys.map R.str)) M') ∧
  (isWholeR q 0 ((Rw.ctl xs : Nat) - 1 : Int) = false → ∀ M', Sub M M' → xw (.ref (He.ga K "BadPlace")) none M')
def spNamesAtXO (K : PySem.W.Frag) : DSp := fun rs M Q xw => ∃ (r q : R) (k : Nat), rs = [r, q] ∧ Dt k q ∧ ProgX K r M xw fun w names ns xs =>
  (∀ k : Nat, q = .int (k : Int) → k < Rw.ctl xs → (Rw.nal xs ns k).length ≤ 63 ∧ ∀ M' ys o, Sub M M' → M o = none → M' o = some (.lst (ys.map R.str)) → ys.Perm (Rw.nal xs ns k) → sortedS ys = true → Q (.o o) M') ∧
  (isWholeR q 0 ((Rw.ctl xs : Nat) - 1 : Int) = false → ∀ M', Sub M M' → xw (.ref (He.ga K "BadPlace")) none M')
theorem oko_names_at (T : Txt w K mg) : DFn P w K mg base 33 (He.ga K "names_at") T.d_names_at ["program", "place"] ((spNamesAtXO K)) := by
  refine dfn_of T.F_names_at sc_names_at (fun cdv A outer s H E hr tk hp => ⟨_, (dss_cons (ds_expr (de_call (okx_need_place T) (hr.mono (by omega)) T.g_need_place T.F_need_place.kp (b_need_place T) tk (da_cons (de_var 0) (da_cons (de_var 1) da_nil))))
    (dss_cons (ds_ret (de_callB cr_sortedS sc_sortSSO T.n_sorted (da_cons (de_call (ok_names_ahead T 6) (hr.mono (by decide)) T.g_names_ahead T.F_names_ahead.kp (b_names_ahead T) tk (da_cons (de_ix (de_var 0) de_int) (da_cons (de_callTy call_lstU sc_lst T.n_list (da_cons (de_ix (de_var 0) de_int) da_nil)) (da_cons (de_var 1) da_nil)))) da_nil)))
    dss_nil)), fun rs M Q xw h hl => ?_⟩)
  have sl : sizeLine = 16777216 := by decide
  obtain ⟨r, q, k, rfl, hq, hp⟩ := h
  refine ⟨r, q, k, rfl, hq, hp.imp (fun c fs M' _ z => ⟨_, Sub.rfl', z⟩) fun w names ns xs e p _ z => ⟨fun hw M1 s1 => ?_, fun hw M1 s1 => ⟨_, Sub.rfl', z.2 hw _ s1⟩⟩⟩
  subst e
  obtain ⟨k2, rfl, hk⟩ := whole_is hw
  obtain ⟨hl, hQ⟩ := z.1 k2 rfl hk
  have pct := p.ct
  have pnl := p.nl
  refine ⟨_, rfl, _, rfl, ?_⟩
  refine ⟨_, rfl, ?_⟩
  refine ⟨w, names, ns, xs, k2, rfl, by decide, by decide, p.vd, hk, by omega, fun M2 s2 => ?_⟩
  have s12 := Sub.trans s1 s2
  refine ⟨_, rfl, by omega, fun ys pm so o ho => ?_⟩
  have n : M o = none := by
    cases q : M o with
    | none => rfl
    | some u => have := s12 _ _ q; rw [ho] at this; cases this
  exact ⟨_, Sub.rfl', hQ _ ys o (Sub.new s12 n) n updM_same pm so⟩
theorem ok_names_at (T : Txt w K mg) : DFn P w K mg base 33 (He.ga K "names_at") T.d_names_at ["program", "place"] (spNamesAtX K) := ((oko_names_at T).fzS).imp fun rs M Q xw ⟨r, q, k, e, hd, hp⟩ =>
  ⟨r, q, k, e, hd, hp.imp (fun c fs M' _ z => z) fun w names ns xs _ _ _ z => ⟨fun k e1 e2 => ⟨(z.1 k e1 e2).1, fun M' ys o s n h pm so => ⟨_, h, (z.1 k e1 e2).2 _ ys (sub_erase s n) pm so⟩⟩, z.2⟩⟩
end
section
variable {P : Program} {w : World} {K : PySem.W.Frag} {mg : Str → Option Value} {base : Heap}
theorem okb__law_behind (T : Txt w K mg) (d : Nat) (IH : DFn P w K mg base (2 * d + 1) (He.ga K "_law_end") T.d__law_end ["rows", "there"] (spEnd d)) : DFn P w K mg base (2 * d + 2) (He.ga K "_law_behind") T.d__law_behind ["row", "there"] (spBehind (d + 1)) := by
  refine dfn_of T.F__law_behind sc__law_behind (fun cdv A outer s H E hr tk hp => ⟨_, (dss_cons (ds_if (dt_cmp (op_eqU hr.hu) sim_eq (de_ix (de_var 0) de_int) de_str) (dss_cons (ds_ret (de_if (dt_cmp op_inU sim_in (de_ix (de_var 0) de_int) (de_var 1)) (de_var 1) (de_op op_addU sim_add (de_var 1) (de_lst (da_cons (de_ix (de_var 0) de_int) da_nil)))))
    dss_nil) dss_nil)
    (dss_cons (ds_if (dt_cmp (op_eqU hr.hu) sim_eq (de_ix (de_var 0) de_int) de_str) (dss_cons (ds_set 2 sc__law_behind.nd (de_call IH (hr.mono (by omega)) T.g__law_end T.F__law_end.kp (b__law_end T) tk (da_cons (de_ix (de_var 0) de_int) (da_cons (de_var 1) da_nil))))
    (dss_cons (ds_ret (de_lc (own := [("name", 3)]) rfl sc__law_behind.nd (di_list (de_call IH (hr.mono (by omega)) T.g__law_end T.F__law_end.kp (b__law_end T) tk (da_cons (de_ix (de_var 0) de_int) (da_cons (de_var 1) da_nil)))) (blkOk_by (by show blkC ["row", "there", "other", "name"] (defScope s__law_behind) _ _ = true; decide +kernel)) (simc1 (by decide)) (fun _ _ _ _ _ => (pg_name (i := 3) sc__law_behind.nd rfl (Or.inl rfl))) (fun _ _ _ _ _ => (dts_one (dt_cmp op_inU sim_in (de_var 3) (de_var 2)))) (fun _ _ _ _ _ => (de_var 3))))
    dss_nil)) dss_nil)
    (dss_cons (ds_ret (de_if (DW.dt (dw_and (dt_cmp (op_eqU hr.hu) sim_eq (de_ix (de_var 0) de_int) de_str) (dw_and1 (dt_cmp op_gt sim_B0 (de_ix (de_var 0) de_int) de_int)))) (de_call IH (hr.mono (by omega)) T.g__law_end T.F__law_end.kp (b__law_end T) tk (da_cons (de_ix (de_var 0) de_int) (da_cons (de_var 1) da_nil))) (de_var 1)))
    dss_nil))), fun rs M Q xw h hl => ?_⟩)
  have sl : sizeLine = 16777216 := by decide
  obtain ⟨w, ns, known, x, rfl, d1, hv, hc, hQ⟩ := h
  cases x with
  | set a e =>
    rw [Rw.th] at hQ
    rw [Rw.ct] at hc
    rw [Rw.r]
    refine ⟨_, rfl, fun _ => ⟨.str a, rfl, _, rfl, rfl, flat_strs known, fun z => ?_, fun z => ?_⟩, noF (decide_eq_true rfl)⟩
    · have z' : decide (a ∈ known) = true := by rw [← in_strs]; exact z
      rw [if_pos (of_decide_eq_true z')] at hQ
      exact ⟨_, Sub.rfl', hQ⟩
    · have z' : decide (a ∈ known) = false := by rw [← in_strs]; exact z
      rw [if_neg (of_decide_eq_false z'), List.map_append] at hQ
      exact ⟨_, rfl, _, _, rfl, rfl, (by rw [List.length_map]; show _ + 1 ≤ _; omega), _, Sub.rfl', hQ⟩
  | tell a =>
    rw [Rw.th] at hQ
    rw [Rw.r]
    exact ⟨_, rfl, noT nbW.1, fun _ => ⟨_, rfl, noT nbW.2.2.2.1, fun _ => ⟨_, rfl, noT nbW.2.2.2.2.2, fun _ => ⟨nt, fun _ => ⟨_, Sub.rfl', hQ⟩⟩⟩⟩⟩
  | iff a p q =>
    rw [Rw.th] at hQ
    rw [Rw.ct] at hc
    rw [Rw.Vd] at hv
    rw [Rw.r]
    have lp := thLen.2 p known
    have lq := thLen.2 q known
    refine ⟨_, rfl, noT nbW.2.1, fun _ => ⟨_, rfl, fun _ => ?_, noF (decide_eq_true rfl)⟩⟩
    refine ⟨_, rfl, w, ns, known, q, rfl, by omega, hv.2.2.2, by omega, ?_⟩
    refine ⟨_, rfl, w, ns, known, p, rfl, by omega, hv.2.2.1, by omega, ?_⟩
    refine ⟨by rw [List.length_map]; omega, lcFM (pIns (Rw.thl known q)) id (fun r hr Pt Pf p1 p2 => ?_) ?_⟩
    · obtain ⟨s, hs, rfl⟩ := List.mem_map.mp hr
      have e : pIns (Rw.thl known q) (.str s) = inR (.str s) ((Rw.thl known q).map R.str) := by rw [in_strs]; rfl
      exact ⟨_, rfl, rfl, flat_strs (Rw.thl known q), fun y => p1 (e.trans y), fun y => p2 (e.trans y)⟩
    rw [insList]
    exact ⟨_, Sub.rfl', hQ⟩
  | rnd n p =>
    rw [Rw.th] at hQ
    rw [Rw.ct] at hc
    rw [Rw.Vd] at hv
    rw [Rw.r]
    refine ⟨_, rfl, noT nbW.2.2.1, fun _ => ⟨_, rfl, noT nbW.2.2.2.2.1, fun _ => ⟨_, rfl, fun _ => ⟨_, rfl, fun z => ?_, fun z => ?_⟩, noF (decide_eq_true rfl)⟩⟩⟩
    · rw [if_pos (by have := of_decide_eq_true z; omega)] at hQ
      exact ⟨_, rfl, w, ns, known, p, rfl, by omega, hv.2.2, by omega, _, Sub.rfl', hQ⟩
    · rw [if_neg (by have := of_decide_eq_false z; omega)] at hQ
      exact ⟨_, Sub.rfl', hQ⟩
theorem ok__law_end (T : Txt w K mg) : ∀ d : Nat, DFn P w K mg base (2 * d + 1) (He.ga K "_law_end") T.d__law_end ["rows", "there"] (spEnd d)
 | 0 => dfn_void T.F__law_end sc__law_end spEnd_void
 | d + 1 => by
  refine dfn_of T.F__law_end sc__law_end (fun cdv A outer s H E hr tk hp => ⟨_, (dss_cons (ds_for hp rfl (di_tup (de_var 0)) (dg_name 2 sc__law_end.nd) (dss_cons (ds_set 1 sc__law_end.nd (de_call (okb__law_behind T d (ok__law_end T d)) (hr.mono (by omega)) T.g__law_behind T.F__law_behind.kp (b__law_behind T) tk (da_cons (de_var 2) (da_cons (de_var 1) da_nil))))
    dss_nil))
    (dss_cons (ds_ret (de_var 1))
    dss_nil)), fun rs M Q xw h hl => ?_⟩)
  obtain ⟨w, ns, known, xs, rfl, d1, hv, hc, hQ⟩ := h
  refine ⟨fun i g' M' => ∃ s2 : Option R, g' = [some (.tup (Rw.rl xs)), some (.lst ((Rw.thl known (xs.take i)).map R.str)), s2] ∧ M' = M, ⟨none, by rw [List.take_zero, Rw.thl]; rfl, rfl⟩, ?_, ?_⟩
  · rintro i r g' M' hr ⟨s2, rfl, rfl⟩
    rw [rl_map, List.getElem?_map] at hr
    obtain ⟨x, hx, rfl⟩ := Option.map_eq_some_iff.mp hr
    have vx := vdl_mem hv (List.mem_of_getElem? hx)
    have e1 := ctl_take hx
    have e2 := ctl_take_le xs (i + 1)
    have e3 := thLen.2 (xs.take i) known
    refine ⟨w, ns, Rw.thl known (xs.take i), x, rfl, by omega, vx, by omega, some x.r, ?_, rfl⟩
    rw [thl_take hx]
    rfl
  · rintro g' M' ⟨s2, rfl, rfl⟩
    rw [rl_map, List.length_map, List.take_length]
    exact ⟨_, Sub.rfl', hQ⟩
end
section
variable {P : Program} {w : World} {K : PySem.W.Frag} {mg : Str → Option Value} {base : Heap}
theorem ok__law_behind (T : Txt w K mg) (_ : Nat) : DFn P w K mg base 12 (He.ga K "_law_behind") T.d__law_behind ["row", "there"] (spBehind 6) := okb__law_behind T 5 (ok__law_end T 5)
end
section
variable {P : Program} {w : World} {K : PySem.W.Frag} {mg : Str → Option Value} {base : Heap}
def spWaysL : DSp := fun rs M Q _ => ∃ x : Rw, rs = [x.r] ∧ Q (.lst (x.inn.map fun p => R.tup (Rw.rl p))) M
theorem ok__law_ways (T : Txt w K mg) : DFn P w K mg base 1 (He.ga K "_law_ways") T.d__law_ways ["row"] (spWaysL) := by
  refine dfn_of T.F__law_ways sc__law_ways (fun cdv A outer s H E hr tk hp => ⟨_, (dss_cons (ds_ret (de_if (dt_cmp (op_eqU hr.hu) sim_eq (de_ix (de_var 0) de_int) de_str) (de_callTy call_lstU sc_lst T.n_list (da_cons (de_slice (de_var 0) (do_some de_int) (do_some de_int)) da_nil)) (de_if (dt_cmp (op_eqU hr.hu) sim_eq (de_ix (de_var 0) de_int) de_str) (de_lst (da_cons (de_ix (de_var 0) de_int) da_nil)) (de_lst da_nil))))
    dss_nil), fun rs M Q xw h hl => ?_⟩)
  obtain ⟨x, rfl, hQ⟩ := h
  have sl : sizeLine = 16777216 := by decide
  cases x with
  | set a e =>
    rw [Rw.r]
    exact ⟨_, rfl, noT rowV.1, fun _ => ⟨_, rfl, noT rowV.2.1, fun _ => ⟨_, Sub.rfl', hQ⟩⟩⟩
  | tell a =>
    rw [Rw.r]
    exact ⟨_, rfl, noT rowV.2.2.1, fun _ => ⟨_, rfl, noT rowV.2.2.2.1, fun _ => ⟨_, Sub.rfl', hQ⟩⟩⟩
  | iff a p q =>
    rw [Rw.r]
    have ec : cutR [R.str "if", .str a, .tup (Rw.rl p), .tup (Rw.rl q)] (some 2) (some 4) = [.tup (Rw.rl p), .tup (Rw.rl q)] := rfl
    refine ⟨_, rfl, fun _ => ⟨_, rfl, _, Sub.rfl', ?_⟩, noF (decide_eq_true rfl)⟩
    show Q (.lst (cutR [R.str "if", .str a, .tup (Rw.rl p), .tup (Rw.rl q)] (some 2) (some 4))) M
    rw [ec]
    exact hQ
  | rnd n p =>
    rw [Rw.r]
    exact ⟨_, rfl, noT rowV.2.2.2.2.2, fun _ => ⟨_, rfl, fun _ => ⟨_, rfl, _, Sub.rfl', hQ⟩, noF (decide_eq_true rfl)⟩⟩
end
section
variable {P : Program} {w : World} {K : PySem.W.Frag} {mg : Str → Option Value} {base : Heap}
theorem ct_pos (x : Rw) : 1 ≤ x.ct := by rw [inn_ct]; omega
theorem inn_le {x : Rw} {p : List Rw} (h : p ∈ x.inn) : Rw.ctl p ≤ (x.inn.map Rw.ctl).sum := by
  generalize x.inn = L at h
  induction L with
  | nil => cases h
  | cons y L ih =>
    rw [List.map_cons, List.sum_cons]
    rcases List.mem_cons.mp h with rfl | h
    · omega
    · have := ih h; omega
theorem xs_len : ∀ xs : List Rw, xs.length ≤ Rw.ctl xs
  | [] => Nat.zero_le _
  | x :: xs => by
    have := ct_pos x
    have := xs_len xs
    rw [Rw.ctl, List.length_cons]; omega
end
section
variable {P : Program} {w : World} {K : PySem.W.Frag} {mg : Str → Option Value} {base : Heap}
/-- what the law tells of a place: the names there, and how many places are left -/
def aheadL (xs : List Rw) (known : List Str) (k : Nat) : List Str × Int := if k < Rw.ctl xs then (Rw.nal xs known k, -1) else (Rw.thl known xs, (k : Int) - (Rw.ctl xs : Nat))
def spLAhead (d : Nat) : DSp := fun rs M Q _ => ∃ (w : Nat) (ns known : List Str) (xs : List Rw) (k : Nat), rs = [.tup (Rw.rl xs), .lst (known.map R.str), .int (k : Int)] ∧ 1 ≤ d ∧ d ≤ 6 ∧ Rw.Vdl w ns d xs ∧ known.length + Rw.ctl xs ≤ 900 ∧ ∀ M', Sub M M' → Q (.tup [.lst ((aheadL xs known k).1.map R.str), .int (aheadL xs known k).2]) M'
theorem spLAhead_void : ∀ rs M Q xw, ¬ spLAhead 0 rs M Q xw := fun _ _ _ _ ⟨_, _, _, _, _, _, h, _⟩ => by omega
theorem ok__law_ahead (T : Txt w K mg) : ∀ d : Nat, DFn P w K mg base (d + 22) (He.ga K "_law_ahead") T.d__law_ahead ["rows", "there", "place"] (spLAhead d)
 | 0 => dfn_void T.F__law_ahead sc__law_ahead spLAhead_void
 | d + 1 => by
  refine dfn_of T.F__law_ahead sc__law_ahead (fun cdv A outer s H E hr tk hp => ⟨_, (dss_cons (ds_for hp rfl (di_tup (de_var 0)) (dg_name 3 sc__law_ahead.nd) (dss_cons (ds_if (dt_cmp (op_eqU hr.hu) sim_eq (de_var 2) de_int) (dss_cons (ds_ret (de_tup (da_cons (de_var 1) (da_cons (de_neg de_int) da_nil))))
    dss_nil) dss_nil)
    (dss_cons (ds_set 2 sc__law_ahead.nd (de_op op_sub sim_I0 (de_var 2) de_int))
    (dss_cons (ds_for hp rfl (di_list (de_call (ok__law_ways T) (hr.mono (by omega)) T.g__law_ways T.F__law_ways.kp (b__law_ways T) tk (da_cons (de_var 3) da_nil))) (dg_name 4 sc__law_ahead.nd) (dss_cons (ds_asg (de_call (ok__law_ahead T d) (hr.mono (by omega)) T.g__law_ahead T.F__law_ahead.kp (b__law_ahead T) tk (da_cons (de_var 4) (da_cons (de_var 1) (da_cons (de_var 2) da_nil)))) (dg_tup rfl (dgs_cons (dg_name 5 sc__law_ahead.nd) (dgs_cons (dg_name 6 sc__law_ahead.nd) dgs_nil))))
    (dss_cons (ds_if (dt_cmp op_ltU sim_lt (de_var 6) de_int) (dss_cons (ds_ret (de_tup (da_cons (de_var 5) (da_cons (de_neg de_int) da_nil))))
    dss_nil) dss_nil)
    (dss_cons (ds_set 2 sc__law_ahead.nd (de_var 6))
    dss_nil))))
    (dss_cons (ds_set 1 sc__law_ahead.nd (de_call (ok__law_behind T 6) (hr.mono (by omega)) T.g__law_behind T.F__law_behind.kp (b__law_behind T) tk (da_cons (de_var 3) (da_cons (de_var 1) da_nil))))
    dss_nil)))))
    (dss_cons (ds_ret (de_tup (da_cons (de_var 1) (da_cons (de_var 2) da_nil))))
    dss_nil)), fun rs M Q xw h hl => ?_⟩)
  obtain ⟨w, ns, known, xs, k, rfl, d1, d6, hv, hc, hQ⟩ := h
  have sl : sizeLine = 16777216 := by decide
  refine ⟨fun i g' M' => ∃ (k' : Nat) (s3 s4 s5 s6 : Option R), g' = [some (.tup (Rw.rl xs)), some (.lst ((Rw.thl known (xs.take i)).map R.str)), some (.int (k' : Int)), s3, s4, s5, s6] ∧ Sub M M' ∧ k' + Rw.ctl (xs.take i) = k, ⟨k, none, none, none, none, by rw [List.take_zero, Rw.thl]; rfl, Sub.rfl', by rw [List.take_zero, Rw.ctl, Nat.add_zero]⟩, ?_, ?_⟩
  · rintro i r g' M' hr ⟨k', s3, s4, s5, s6, rfl, hM, ek⟩
    rw [rl_map, List.getElem?_map] at hr
    obtain ⟨x, hx, rfl⟩ := Option.map_eq_some_iff.mp hr
    have vx := vdl_mem hv (List.mem_of_getElem? hx)
    have e1 := ctl_take hx
    have e2 := ctl_take_le xs (i + 1)
    have e3 := thLen.2 (xs.take i) known
    have ci := inn_ct x
    have nt0 : k' < x.ct → Rw.nal xs known k = x.na (Rw.thl known (xs.take i)) k' := fun z => by
      rw [nal_take xs i x known k hx (by omega) (by omega), show k - Rw.ctl (xs.take i) = k' by omega]
    have et := thl_take hx known
    have inr : k' < x.ct → aheadL xs known k = (x.na (Rw.thl known (xs.take i)) k', -1) := fun z => by
      rw [aheadL, if_pos (by omega), nt0 z]
    generalize hkn : Rw.thl known (xs.take i) = kn at nt0 e3 et inr
    refine ⟨fun z => ?_, fun z => ?_⟩
    · have z0 : k' = 0 := by have := of_decide_eq_true z; omega
      have q := hQ M' hM
      rw [inr (by omega), z0, na0] at q
      exact ⟨_, Sub.rfl', q⟩
    · have z0 : k' ≠ 0 := fun y => by have := of_decide_eq_false z; omega
      refine nxG (g' := [some (.tup (Rw.rl xs)), some (.lst (kn.map R.str)), some (.int (k' : Int)), some x.r, s4, s5, s6]) rfl ?_
      refine ⟨x, rfl, fun j g' M2 => ∃ (k2 : Nat) (s4 s5 s6 : Option R), g' = [some (.tup (Rw.rl xs)), some (.lst (kn.map R.str)), some (.int (k2 : Int)), some x.r, s4, s5, s6] ∧ Sub M M2 ∧ k2 + ((x.inn.take j).map Rw.ctl).sum = k' - 1, ⟨k' - 1, s4, s5, s6, by rw [show ((k' - 1 : Nat) : Int) = (k' : Int) - 1 by omega]; rfl, hM, rfl⟩, ?_, ?_⟩
      · rintro j r g' M2 hr2 ⟨k2, s4, s5, s6, rfl, hM2, ek2⟩
        rw [List.getElem?_map] at hr2
        obtain ⟨p, hp, rfl⟩ := Option.map_eq_some_iff.mp hr2
        have hpm := List.mem_of_getElem? hp
        have vp := inn_vd vx p hpm
        have cp : Rw.ctl p ≤ (x.inn.map Rw.ctl).sum := inn_le hpm
        have b1 := sum_take_le (x.inn.map Rw.ctl) (j + 1)
        have b2 : (x.inn.map Rw.ctl).take (j + 1) = (x.inn.take j).map Rw.ctl ++ [Rw.ctl p] := by
          rw [← List.map_take, List.take_succ, hp, List.map_append]; rfl
        rw [b2, List.sum_append] at b1
        have b3 : [Rw.ctl p].sum = Rw.ctl p := by simp
        refine ⟨w, ns, kn, p, k2, rfl, vp.1, by omega, vp.2, by omega, fun M3 s3 => ?_⟩
        have e := naW_drop kn x.inn j k2
        rw [ek2] at e
        have ed : x.inn.drop j = p :: x.inn.drop (j + 1) := by
          obtain ⟨h1, h2⟩ := List.getElem?_eq_some_iff.mp hp
          rw [← h2]; exact List.drop_eq_getElem_cons h1
        rw [ed, naW] at e
        by_cases lt : k2 < Rw.ctl p
        · have ea : aheadL p kn k2 = (Rw.nal p kn k2, -1) := by rw [aheadL, if_pos lt]
          rw [ea]
          rw [if_pos lt, na_ways x kn (k' - 1) (by omega), show k' - 1 + 1 = k' by omega] at e
          have q := hQ M3 (Sub.trans hM2 s3)
          rw [inr (by omega), Option.some.inj e] at q
          refine ⟨rfl, fun _ => ?_, noF (show decide ((-1 : Int) < 0) = true by decide)⟩
          exact ⟨_, Sub.rfl', q⟩
        · have ea : aheadL p kn k2 = (Rw.thl kn p, (k2 : Int) - (Rw.ctl p : Nat)) := by rw [aheadL, if_neg lt]
          rw [ea]
          refine ⟨rfl, fun z => absurd (of_decide_eq_true z) (by show ¬ (k2 : Int) - (Rw.ctl p : Nat) < 0; omega), fun _ => ?_⟩
          refine nxG rfl ⟨k2 - Rw.ctl p, some (.tup (Rw.rl p)), some (.lst ((Rw.thl kn p).map R.str)), some (.int ((k2 : Int) - (Rw.ctl p : Nat))), ?_, Sub.trans hM2 s3, ?_⟩
          · rw [show ((k2 - Rw.ctl p : Nat) : Int) = (k2 : Int) - (Rw.ctl p : Nat) by omega]
            rfl
          · rw [List.take_succ, hp, List.map_append, List.sum_append]
            show k2 - Rw.ctl p + (_ + [Rw.ctl p].sum) = _
            omega
      · rintro g' M2 ⟨k2, s4, s5, s6, rfl, hM2, ek2⟩
        rw [List.length_map, List.take_length] at ek2
        refine ⟨w, ns, kn, x, rfl, by decide, vd_mono (by omega) x vx, by omega, ?_⟩
        exact nxG rfl ⟨k2, some x.r, s4, s5, s6, by rw [et]; rfl, hM2, by omega⟩
  · rintro g' M' ⟨k', s3, s4, s5, s6, rfl, hM, ek⟩
    have lr : (Rw.rl xs).length = xs.length := by rw [rl_map, List.length_map]
    rw [lr, List.take_length] at ek
    have e : aheadL xs known k = (Rw.thl known xs, (k' : Int)) := by
      rw [aheadL, if_neg (by omega)]
      congr 1
      omega
    rw [e] at hQ
    rw [lr, List.take_length]
    exact ⟨_, Sub.rfl', hQ _ hM⟩
end
section
variable {P : Program} {w : World} {K : PySem.W.Frag} {mg : Str → Option Value} {base : Heap}
def spLUsed : DSp := fun rs M Q _ => ∃ (w : Nat) (ns : List Str) (d : Nat) (x : Rw), rs = [x.r] ∧ Rw.Vd w ns d x ∧ Q (.lst (x.us.map R.str)) M
theorem ok__law_used (T : Txt w K mg) : DFn P w K mg base 1 (He.ga K "_law_used") T.d__law_used ["row"] (spLUsed) := by
  refine dfn_of T.F__law_used sc__law_used (fun cdv A outer s H E hr tk hp => ⟨_, (dss_cons (ds_if (dt_cmp (op_eqU hr.hu) sim_eq (de_ix (de_var 0) de_int) de_str) (dss_cons (ds_ret (de_lc (own := [("one", 1)]) rfl sc__law_used.nd (di_tup (de_slice (de_ix (de_var 0) de_int) (do_some de_int) do_none)) (blkOk_by (by show blkC ["row", "one"] (defScope s__law_used) _ _ = true; decide +kernel)) (simc1 (by decide)) (fun _ _ _ _ _ => (pg_name (i := 1) sc__law_used.nd rfl (Or.inl rfl))) (fun _ _ _ _ _ => (dts_one (dt_val (de_callB call_isi sc_isi T.n_isinstance (da_cons (de_var 1) (da_cons (de_ty .str T.n_str) da_nil)))))) (fun _ _ _ _ _ => (de_var 1))))
    dss_nil) dss_nil)
    (dss_cons (ds_ret (de_if (dt_cmp (op_eqU hr.hu) sim_eq (de_ix (de_var 0) de_int) de_str) (de_lst da_nil) (de_lst (da_cons (de_ix (de_var 0) de_int) da_nil))))
    dss_nil)), fun rs M Q xw h hl => ?_⟩)
  have sl : sizeLine = 16777216 := by decide
  obtain ⟨w, ns, d, x, rfl, hv, hQ⟩ := h
  cases x with
  | set a e =>
    rw [Rw.r]
    obtain ⟨y, tl, e1, e2, e3, e4⟩ := Xp.tl e
    refine ⟨_, rfl, fun _ => ?_, noF (decide_eq_true rfl)⟩
    rw [e1]
    have ec : cutR (.str y :: tl) (some 1) none = tl := cutDrop (m := 1) (by rw [List.length_cons]; omega)
    refine ⟨_, rfl, (by rw [ec]; omega), ?_⟩
    rw [ec]
    refine lcFM pTxt id (fun r hr Pt Pf p1 p2 => ?_) ?_
    · rcases e4 r hr with ⟨s, rfl⟩ | ⟨i, rfl⟩
      · exact ⟨⟨fun _ => p1 rfl, fun z => (by cases z)⟩, fun z => (by cases z)⟩
      · exact ⟨⟨fun z => (by cases z), fun _ => p2 rfl⟩, fun z => (by cases z)⟩
    rw [e3]
    exact ⟨_, Sub.rfl', hQ⟩
  | tell a =>
    rw [Rw.r]
    exact ⟨_, rfl, noT useW.2.2.2.2.1, fun _ => ⟨_, rfl, noT useW.2.2.2.2.2.2.2.1, fun _ => ⟨_, rfl, _, Sub.rfl', hQ⟩⟩⟩
  | iff a p q =>
    rw [Rw.r]
    exact ⟨_, rfl, noT useW.2.2.2.2.2.1, fun _ => ⟨_, rfl, noT useW.2.2.2.2.2.2.2.2, fun _ => ⟨_, rfl, _, Sub.rfl', hQ⟩⟩⟩
  | rnd n p =>
    rw [Rw.r]
    exact ⟨_, rfl, noT useW.2.2.2.2.2.2.1, fun _ => ⟨_, rfl, fun _ => ⟨_, Sub.rfl', hQ⟩, noF (decide_eq_true rfl)⟩⟩
end
section
variable {P : Program} {w : World} {K : PySem.W.Frag} {mg : Str → Option Value} {base : Heap}
theorem natL_sh5 : ∀ {vs : List Nat}, (∀ v ∈ vs, v < 2 ^ 128) → R.shws (natL vs) = true ∧ R.cnts (natL vs) = vs.length ∧ R.deps (natL vs) = 0
  | [], _ => ⟨rfl, rfl, rfl⟩
  | v :: vs, h => by
    obtain ⟨h1, h2, h3⟩ := natL_sh5 (vs := vs) fun u hu => h u (List.mem_cons_of_mem _ hu)
    refine ⟨?_, ?_, ?_⟩
    · show ((R.int (v : Int)).shw && R.shws (natL vs)) = true
      rw [int_shw (h v List.mem_cons_self), h1]; rfl
    · show 1 + R.cnts (natL vs) = vs.length + 1
      rw [h2, Nat.add_comm]
    · show max 0 (R.deps (natL vs)) = 0
      rw [h3]; rfl
theorem shws_ap5 : ∀ a b : List R, R.shws (a ++ b) = (R.shws a && R.shws b)
  | [], b => by rw [List.nil_append, R.shws, Bool.true_and]
  | x :: a, b => by rw [List.cons_append, R.shws, R.shws, shws_ap5 a b, Bool.and_assoc]
theorem cnts_ap5 : ∀ a b : List R, R.cnts (a ++ b) = R.cnts a + R.cnts b
  | [], b => by rw [List.nil_append, R.cnts]; omega
  | x :: a, b => by rw [List.cons_append, R.cnts, R.cnts, cnts_ap5 a b]; omega
theorem deps_ap5 : ∀ a b : List R, R.deps (a ++ b) = max (R.deps a) (R.deps b)
  | [], b => by rw [List.nil_append, R.deps]; omega
  | x :: a, b => by rw [List.cons_append, R.deps, R.deps, deps_ap5 a b]; omega
theorem one_shw {r : R} : R.shws [r] = r.shw ∧ R.cnts [r] = r.cnt ∧ R.deps [r] = r.dep := ⟨by show (r.shw && true) = _; rw [Bool.and_true], by show r.cnt + 0 = _; omega, by show max r.dep 0 = _; omega⟩
mutual
theorem al_shw {w : Nat} {ns : List Str} (w2 : w ≤ 12) (nm : ∀ s ∈ ns, NameOk s) : ∀ (x : Rw) (d : Nat), 1 ≤ d → Rw.Vd w ns d x → R.shws x.al = true ∧ R.cnts x.al ≤ 8 * d * x.ct ∧ R.deps x.al ≤ 2 * d + 2
  | .set a e, d, hd, v => by
    obtain ⟨h1, h2, h3⟩ := r_shw w2 nm (.set a e) d v
    rw [Rw.al, one_shw.1, one_shw.2.1, one_shw.2.2]
    rw [Rw.ct] at h2 ⊢
    exact ⟨h1, by omega, h3⟩
  | .tell a, d, hd, v => by
    obtain ⟨h1, h2, h3⟩ := r_shw w2 nm (.tell a) d v
    rw [Rw.al, one_shw.1, one_shw.2.1, one_shw.2.2]
    rw [Rw.ct] at h2 ⊢
    exact ⟨h1, by omega, h3⟩
  | .iff a p q, d, hd, v => by
    obtain ⟨h1, h2, h3⟩ := r_shw w2 nm (.iff a p q) d v
    rw [Rw.Vd] at v
    obtain ⟨e, rfl⟩ : ∃ e, d = e + 1 := ⟨d - 1, by omega⟩
    have d2 := v.2.1
    obtain ⟨p1, p2, p3⟩ := all_shw w2 nm p e (by omega) v.2.2.1
    obtain ⟨q1, q2, q3⟩ := all_shw w2 nm q e (by omega) v.2.2.2
    have ea : (Rw.iff a p q).al = [(Rw.iff a p q).r] ++ (Rw.all p ++ Rw.all q) := by rw [Rw.al]; rfl
    rw [ea, shws_ap5, shws_ap5, cnts_ap5, cnts_ap5, deps_ap5, deps_ap5, one_shw.1, one_shw.2.1, one_shw.2.2, h1, p1, q1]
    refine ⟨rfl, ?_, by omega⟩
    rw [Rw.ct] at h2 ⊢
    have m : 8 * (e + 1) * (1 + (Rw.ctl p + Rw.ctl q)) = 8 * e * Rw.ctl p + 8 * e * Rw.ctl q + 8 * e + 8 * (1 + (Rw.ctl p + Rw.ctl q)) := by
      rw [Nat.mul_add 8 e 1, Nat.add_mul, Nat.mul_add (8 * e) 1, Nat.mul_one, Nat.mul_add (8 * e) (Rw.ctl p)]
      omega
    rw [m]
    generalize 8 * e * Rw.ctl p = X at *
    generalize 8 * e * Rw.ctl q = Y at *
    omega
  | .rnd n p, d, hd, v => by
    obtain ⟨h1, h2, h3⟩ := r_shw w2 nm (.rnd n p) d v
    rw [Rw.Vd] at v
    obtain ⟨e, rfl⟩ : ∃ e, d = e + 1 := ⟨d - 1, by omega⟩
    have d2 := v.2.1
    obtain ⟨p1, p2, p3⟩ := all_shw w2 nm p e (by omega) v.2.2
    have ea : (Rw.rnd n p).al = [(Rw.rnd n p).r] ++ Rw.all p := by rw [Rw.al]; rfl
    rw [ea, shws_ap5, cnts_ap5, deps_ap5, one_shw.1, one_shw.2.1, one_shw.2.2, h1, p1]
    refine ⟨rfl, ?_, by omega⟩
    rw [Rw.ct] at h2 ⊢
    have m : 8 * (e + 1) * (1 + Rw.ctl p) = 8 * e * Rw.ctl p + 8 * e + 8 * (1 + Rw.ctl p) := by
      rw [Nat.mul_add 8 e 1, Nat.add_mul, Nat.mul_add (8 * e) 1, Nat.mul_one]
      omega
    rw [m]
    generalize 8 * e * Rw.ctl p = X at *
    omega
theorem all_shw {w : Nat} {ns : List Str} (w2 : w ≤ 12) (nm : ∀ s ∈ ns, NameOk s) : ∀ (xs : List Rw) (d : Nat), 1 ≤ d → Rw.Vdl w ns d xs → R.shws (Rw.all xs) = true ∧ R.cnts (Rw.all xs) ≤ 8 * d * Rw.ctl xs ∧ R.deps (Rw.all xs) ≤ 2 * d + 2
  | [], d, hd, v => by rw [Rw.all]; exact ⟨rfl, Nat.zero_le _, Nat.zero_le _⟩
  | x :: xs, d, hd, v => by
    rw [Rw.Vdl] at v
    obtain ⟨g1, g2, g3⟩ := al_shw w2 nm x d hd v.1
    obtain ⟨h1, h2, h3⟩ := all_shw w2 nm xs d hd v.2
    rw [Rw.all, shws_ap5, cnts_ap5, deps_ap5, g1, h1, Rw.ctl, Nat.mul_add]
    exact ⟨rfl, by omega, by omega⟩
end
mutual
theorem na_bd {w : Nat} {S : List Str} : ∀ (x : Rw) (d : Nat) (kn : List Str) (k : Nat), Rw.Vd w S d x → (∀ a ∈ kn, a ∈ S) → (∀ a ∈ x.na kn k, a ∈ S) ∧ (x.na kn k).length ≤ kn.length + x.ct
  | .set _ _, d, kn, k, v, h => by rw [Rw.na]; exact ⟨h, Nat.le_add_right _ _⟩
  | .tell _, d, kn, k, v, h => by rw [Rw.na]; exact ⟨h, Nat.le_add_right _ _⟩
  | .iff a p q, d, kn, k, v, h => by
    rw [Rw.Vd] at v
    rw [Rw.na, Rw.ct]
    split
    · exact ⟨h, by omega⟩
    · split
      · obtain ⟨g1, g2⟩ := nal_bd p _ kn (k - 1) v.2.2.1 h
        exact ⟨g1, by omega⟩
      · obtain ⟨g1, g2⟩ := nal_bd q _ kn (k - 1 - Rw.ctl p) v.2.2.2 h
        exact ⟨g1, by omega⟩
  | .rnd n p, d, kn, k, v, h => by
    rw [Rw.Vd] at v
    rw [Rw.na, Rw.ct]
    split
    · exact ⟨h, by omega⟩
    · obtain ⟨g1, g2⟩ := nal_bd p _ kn (k - 1) v.2.2 h
      exact ⟨g1, by omega⟩
theorem nal_bd {w : Nat} {S : List Str} : ∀ (xs : List Rw) (d : Nat) (kn : List Str) (k : Nat), Rw.Vdl w S d xs → (∀ a ∈ kn, a ∈ S) → (∀ a ∈ Rw.nal xs kn k, a ∈ S) ∧ (Rw.nal xs kn k).length ≤ kn.length + Rw.ctl xs
  | [], d, kn, k, v, h => by rw [Rw.nal]; exact ⟨h, Nat.le_add_right _ _⟩
  | x :: xs, d, kn, k, v, h => by
    rw [Rw.Vdl] at v
    rw [Rw.nal, Rw.ctl]
    split
    · obtain ⟨g1, g2⟩ := na_bd x d kn k v.1 h
      exact ⟨g1, by omega⟩
    · have e := thl_in [x] d kn (by rw [Rw.Vdl, Rw.Vdl]; exact ⟨v.1, trivial⟩) h
      have e1 : Rw.thl kn [x] = x.th kn := by rw [Rw.thl, Rw.thl]
      rw [e1] at e
      obtain ⟨g1, g2⟩ := nal_bd xs d (x.th kn) (k - x.ct) v.2 e
      have := thb_len x kn
      exact ⟨g1, by omega⟩
end
theorem us_bd {w : Nat} {S : List Str} {d : Nat} {x : Rw} (v : Rw.Vd w S d x) : (∀ a ∈ x.us, a ∈ S) ∧ x.us.length ≤ 3 := by
  cases x with
  | set a e =>
    rw [Rw.Vd] at v
    exact ⟨v.2.ns, by rw [Rw.us]; cases e <;> simp [Xp.names]⟩
  | tell a =>
    rw [Rw.Vd] at v
    exact ⟨fun b hb => by rw [List.mem_singleton.mp hb]; exact v, (by decide : 1 ≤ 3)⟩
  | iff a p q =>
    rw [Rw.Vd] at v
    exact ⟨fun b hb => by rw [List.mem_singleton.mp hb]; exact v.1, (by decide : 1 ≤ 3)⟩
  | rnd n p => exact ⟨nofun, Nat.zero_le _⟩
end
section
variable {P : Program} {w : World} {K : PySem.W.Frag} {mg : Str → Option Value} {base : Heap}
mutual
/-- with truths for its 0s and 1s -/
def twR : R → R
  | .tup rs => .tup (twRs rs)
  | .int i => if 0 ≤ i ∧ i ≤ 1 then .bl (decide (i = 1)) else .int i
  | r => r
def twRs : List R → List R
  | [] => []
  | r :: rs => twR r :: twRs rs
end
theorem twRs_map : ∀ rs, twRs rs = rs.map twR
  | [] => rfl
  | r :: rs => by rw [twRs, twRs_map rs]; rfl
mutual
/-- no truth in it -/
def R.nb : R → Bool
  | .bl _ => false
  | .tup rs => R.nbs rs
  | _ => true
def R.nbs : List R → Bool
  | [] => true
  | r :: rs => r.nb && R.nbs rs
end
theorem nbs_mem : ∀ {rs : List R}, R.nbs rs = true → ∀ r ∈ rs, r.nb = true
  | [], _, r, h => by cases h
  | x :: rs, e, r, h => by
    rw [R.nbs, Bool.and_eq_true] at e
    rcases List.mem_cons.mp h with rfl | h
    · exact e.1
    · exact nbs_mem e.2 r h
theorem xp_nb (e : Xp) : e.r.nb = true := by cases e <;> rfl
mutual
theorem r_nb : ∀ x : Rw, x.r.nb = true
  | .set a e => by rw [Rw.r]; show (true && (true && (e.r.nb && true))) = true; rw [xp_nb]; rfl
  | .tell a => by rw [Rw.r]; rfl
  | .iff a p q => by rw [Rw.r]; show (true && (true && (R.nbs (Rw.rl p) && (R.nbs (Rw.rl q) && true)))) = true; rw [rl_nb p, rl_nb q]; rfl
  | .rnd n p => by rw [Rw.r]; show (true && (true && (R.nbs (Rw.rl p) && true))) = true; rw [rl_nb p]; rfl
theorem rl_nb : ∀ xs : List Rw, R.nbs (Rw.rl xs) = true
  | [] => by rw [Rw.rl]; rfl
  | x :: xs => by rw [Rw.rl, R.nbs, r_nb x, rl_nb xs]; rfl
end
theorem strs_nb : ∀ ns : List Str, R.nbs (ns.map R.str) = true
  | [] => rfl
  | s :: ns => by show (true && R.nbs (ns.map R.str)) = true; rw [strs_nb ns]; rfl
theorem prog_nb (w : Nat) (ns : List Str) (xs : List Rw) : (progR w ns xs).nb = true := by
  show (true && (R.nbs (ns.map R.str) && (R.nbs (Rw.rl xs) && true))) = true
  rw [strs_nb, rl_nb]; rfl
theorem prog_dt16 {w : Nat} {names ns : List Str} {xs : List Rw} (p : PfOk w names ns xs) : Dt 16 (progR w ns xs) := by
  have hc := p.ct
  have hl := p.nl
  have lx := xs_len xs
  have rd := rl_dt p.nm xs 6 p.vd (by omega)
  refine .tup (show (3 : Nat) ≤ 1000 by decide) fun r hr => ?_
  simp only [List.mem_cons, List.not_mem_nil, or_false] at hr
  rcases hr with rfl | rfl | rfl
  · exact .int _ _
  · exact .tup (by rw [List.length_map]; omega) fun r hr => by
      obtain ⟨s, hs, rfl⟩ := List.mem_map.mp hr
      exact dtN (p.nm s (p.sub s hs))
  · exact .tup rd.1 rd.2
def spTwin (d : Nat) : DSp := fun rs M Q _ => ∃ r e, rs = [r] ∧ Dt e r ∧ r.nb = true ∧ e < d ∧ ∀ M', Sub M M' → Q (twR r) M'
theorem spTwin_void : ∀ rs M Q xw, ¬ spTwin 0 rs M Q xw := fun _ _ _ _ ⟨_, _, _, _, _, h, _⟩ => by omega
theorem ok__law_twin (T : Txt w K mg) : ∀ d : Nat, DFn P w K mg base (d + 1) (He.ga K "_law_twin") T.d__law_twin ["thing"] (spTwin d)
 | 0 => dfn_void T.F__law_twin sc__law_twin spTwin_void
 | d + 1 => by
  refine dfn_of T.F__law_twin sc__law_twin (fun cdv A outer s H E hr tk hp => ⟨_, (dss_cons (ds_if (dt_val (de_callB call_isi sc_isi T.n_isinstance (da_cons (de_var 0) (da_cons (de_ty .tup T.n_tuple) da_nil)))) (dss_cons (ds_ret (de_callTy call_tupU sc_tup T.n_tuple (da_cons (de_lc (own := [("one", 1)]) rfl sc__law_twin.nd (di_tup (de_var 0)) (blkOk_by (by show blkC ["thing", "one"] (defScope s__law_twin) _ _ = true; decide +kernel)) (simc1 (by decide)) (fun _ _ _ _ _ => (pg_name (i := 1) sc__law_twin.nd rfl (Or.inl rfl))) (fun _ _ _ _ _ => dts_nil) (fun _ _ _ _ _ => (de_call (ok__law_twin T d) (hr.mono (by omega)) T.g__law_twin T.F__law_twin.kp (b__law_twin T) takes0 (da_cons (de_var 1) da_nil)))) da_nil)))
    dss_nil) dss_nil)
    (dss_cons (ds_ret (de_if (DW.dt (dw_and (dt_val (de_callB call_isi sc_isi T.n_isinstance (da_cons (de_var 0) (da_cons (de_ty .int T.n_int) da_nil)))) (dw_and1 (dt_chain op_le op_le sim_B0 sim_B0 de_int (de_var 0) de_int)))) (de_cmp (op_eqU hr.hu) sim_eq (de_var 0) de_int) (de_var 0)))
    dss_nil)), fun rs M Q xw h hl => ?_⟩)
  obtain ⟨r, e, rfl, hd, hb, d1, hQ⟩ := h
  have sl : sizeLine = 16777216 := by decide
  have nt' : Ty.tup ≠ .non := fun z => by cases z
  have ni : Ty.int ≠ .non := fun z => by cases z
  cases r with
  | tup rs =>
    have hl := hd.len
    obtain ⟨e, rfl⟩ : ∃ e', e = e' + 1 := by cases hd with | tup _ _ => exact ⟨_, rfl⟩
    have hm := fun r (h : r ∈ rs) => hd.mem h
    have hn := nbs_mem hb
    have e : twR (.tup rs) = .tup (rs.map twR) := by rw [twR, twRs_map]
    refine ⟨⟨fun _ => ⟨by omega, fun i acc M1 => acc = (rs.take i).map twR ∧ Sub M M1, ⟨rfl, Sub.rfl'⟩, ?_, ?_⟩, noF rfl⟩, nt'⟩
    · rintro i r acc M1 hr - ⟨rfl, s1⟩
      have m := List.mem_of_getElem? hr
      refine ⟨fun _ => ⟨r, _, rfl, hm r m, hn r m, by omega, fun M2 s2 => ⟨by rw [List.take_succ, hr, List.map_append]; rfl, Sub.trans s1 s2⟩⟩, noF rfl⟩
    · rintro acc M1 - ⟨rfl, s1⟩
      rw [List.take_length]
      exact ⟨_, rfl, _, Sub.rfl', by rw [← e]; exact hQ _ s1⟩
  | int i =>
    refine ⟨⟨noT rfl, fun _ => ⟨⟨fun _ => ⟨fun z1 => ⟨fun z2 => ?_, fun z2 => ?_⟩, fun z1 => ?_⟩, noF rfl⟩, ni⟩⟩, nt'⟩
    · have h1 := of_decide_eq_true z1
      have h2 := of_decide_eq_true z2
      have e : twR (.int i) = .bl (decide (i = 1)) := by rw [twR, if_pos ⟨h1, h2⟩]
      exact ⟨_, Sub.rfl', by rw [← e]; exact hQ _ Sub.rfl'⟩
    · have h2 : ¬ i ≤ 1 := of_decide_eq_false z2
      have e : twR (.int i) = .int i := by rw [twR, if_neg (fun z => h2 z.2)]
      exact ⟨_, Sub.rfl', by rw [← e]; exact hQ _ Sub.rfl'⟩
    · have h1 : ¬ 0 ≤ i := of_decide_eq_false z1
      have e : twR (.int i) = .int i := by rw [twR, if_neg (fun z => h1 z.1)]
      exact ⟨noT rfl, fun _ => ⟨_, Sub.rfl', by rw [← e]; exact hQ _ Sub.rfl'⟩⟩
  | bl b => cases hb
  | str s => exact ⟨⟨noT rfl, fun _ => ⟨⟨noT rfl, fun _ => ⟨noT rfl, fun _ => ⟨_, Sub.rfl', hQ _ Sub.rfl'⟩⟩⟩, ni⟩⟩, nt'⟩
  | non => exact ⟨⟨noT rfl, fun _ => ⟨⟨noT rfl, fun _ => ⟨noT rfl, fun _ => ⟨_, Sub.rfl', hQ _ Sub.rfl'⟩⟩⟩, ni⟩⟩, nt'⟩
  | lst rs => exact ⟨⟨noT rfl, fun _ => ⟨⟨noT rfl, fun _ => ⟨noT rfl, fun _ => ⟨_, Sub.rfl', hQ _ Sub.rfl'⟩⟩⟩, ni⟩⟩, nt'⟩
  | _ => cases hd
end
section
variable {P : Program} {w : World} {K : PySem.W.Frag} {mg : Str → Option Value} {base : Heap}
theorem tw_int {r : R} {i : Int} (h : twR r = .int i) : r = .int i := by
  cases r with
  | int j =>
    rw [twR] at h
    split at h
    · cases h
    · exact h
  | tup rs => rw [twR] at h; cases h
  | _ => exact h
theorem tw_str {r : R} {s : Str} (h : twR r = .str s) : r = .str s := by
  cases r with
  | int j =>
    rw [twR] at h
    split at h <;> cases h
  | tup rs => rw [twR] at h; cases h
  | _ => exact h
theorem tw_tup {r : R} {rs : List R} (h : twR r = .tup rs) : ∃ qs, r = .tup qs ∧ rs = qs.map twR := by
  cases r with
  | int j =>
    rw [twR] at h
    split at h <;> cases h
  | tup qs => rw [twR, twRs_map] at h; cases h; exact ⟨qs, rfl, rfl⟩
  | _ => cases h
theorem tw_name {r : R} (h : isNameR (twR r) = true) : twR r = r := by
  cases e : twR r with
  | str s => exact (tw_str e).symm
  | _ => rw [e] at h; cases h
theorem tw_whole {r : R} {a b : Int} (h : isWholeR (twR r) a b = true) : twR r = r := by
  cases e : twR r with
  | int s => exact (tw_int e).symm
  | _ => rw [e] at h; cases h
theorem tw_all {rs : List R} (h : ∀ r ∈ rs, twR r = r) : rs.map twR = rs := by
  induction rs with
  | nil => rfl
  | cons r rs ih => rw [List.map_cons, h r List.mem_cons_self, ih fun q hq => h q (List.mem_cons_of_mem _ hq)]
theorem tw_hd {r : R} {t : Str} {tl : List R} (h : hdS (twR r) = some (t, tl)) : ∃ ql, r = .tup (.str t :: ql) ∧ tl = ql.map twR ∧ ql ≠ [] := by
  cases e : twR r with
  | tup rs =>
    rw [e] at h
    obtain ⟨qs, rfl, rfl⟩ := tw_tup e
    match qs, h with
    | [], h => cases h
    | q :: ql, h =>
      rw [List.map_cons] at h
      cases e2 : twR q with
      | str s =>
        rw [e2] at h
        cases ql with
        | nil => cases h
        | cons y ql =>
          rw [List.map_cons] at h
          cases h
          exact ⟨y :: ql, by rw [tw_str e2], rfl, by simp⟩
      | _ => rw [e2] at h; cases h
  | _ => rw [e] at h; cases h
theorem nth_map {ql : List R} {i : Nat} (hi : i < ql.length) : nthR (ql.map twR) i = twR (nthR ql i) := by
  unfold nthR
  rw [List.getElem?_map, List.getElem?_eq_getElem hi]
  rfl
theorem tw_xp {w : Nat} {r : R} (h : isXpR w (twR r) = true) : twR r = r := by
  unfold isXpR at h
  cases e : hdS (twR r) with
  | none => rw [e] at h; cases h
  | some z =>
    obtain ⟨t, tl⟩ := z
    rw [e] at h
    obtain ⟨ql, rfl, rfl, ne⟩ := tw_hd e
    have fin : (∀ q ∈ ql, twR q = q) → twR (.tup (.str t :: ql)) = .tup (.str t :: ql) := fun z => by
      rw [twR, twRs_map, List.map_cons, tw_all z]; rfl
    have h' : xpB w t (ql.map twR) = true := h
    unfold xpB at h'
    split at h'
    · rw [Bool.and_eq_true, List.length_map] at h'
      have l := of_decide_eq_true h'.1
      match ql, l with
      | [q], _ => exact fin fun q' hq => by rw [List.mem_singleton.mp hq]; exact tw_whole h'.2
    · split at h'
      · rw [Bool.and_eq_true, List.length_map, Bool.and_eq_true] at h'
        have l := of_decide_eq_true h'.1
        match ql, l with
        | [q, q2], _ =>
          exact fin fun q' hq => by
            simp only [List.mem_cons, List.not_mem_nil, or_false] at hq
            rcases hq with rfl | rfl
            · exact tw_name h'.2.1
            · exact tw_whole h'.2.2
      · rw [Bool.and_eq_true, List.all_eq_true] at h'
        exact fin fun q hq => tw_name (h'.2 _ (List.mem_map_of_mem hq))
/-- a row whose ways stay -/
theorem tw_row {w : Nat} {r : R} (h : isRowR w (twR r) = true) (hin : ∀ q ∈ innR r, twR q = q) : twR r = r := by
  unfold isRowR at h
  cases e : hdS (twR r) with
  | none => rw [e] at h; cases h
  | some z =>
    obtain ⟨t, tl⟩ := z
    rw [e] at h
    obtain ⟨ql, rfl, rfl, ne⟩ := tw_hd e
    have fin : (∀ q ∈ ql, twR q = q) → twR (.tup (.str t :: ql)) = .tup (.str t :: ql) := fun z => by
      rw [twR, twRs_map, List.map_cons, tw_all z]; rfl
    have h' : rowB w t (ql.map twR) = true := h
    unfold rowB at h'
    split at h'
    · rw [Bool.and_eq_true, List.length_map, Bool.and_eq_true] at h'
      have l := of_decide_eq_true h'.1
      match ql, l with
      | [q, q2], _ =>
        exact fin fun q' hq => by
          simp only [List.mem_cons, List.not_mem_nil, or_false] at hq
          rcases hq with rfl | rfl
          · exact tw_name h'.2.1
          · exact tw_xp h'.2.2
    · split at h'
      · rw [Bool.and_eq_true, List.length_map] at h'
        have l := of_decide_eq_true h'.1
        match ql, l with
        | [q], _ => exact fin fun q' hq => by rw [List.mem_singleton.mp hq]; exact tw_name h'.2
      · split at h'
        · rename_i hif
          rw [Bool.and_eq_true, List.length_map] at h'
          have l := of_decide_eq_true h'.1
          match ql, l with
          | [q, q2, q3], _ =>
            have hin' : ∀ x ∈ [q2, q3], twR x = x := fun x hx => hin x (by
              show x ∈ (if t = "if" then [nthR [q, q2, q3] 1, nthR [q, q2, q3] 2] else _)
              rw [if_pos hif]
              exact hx)
            exact fin fun q' hq => by
              rcases List.mem_cons.mp hq with rfl | hq
              · exact tw_name h'.2
              · exact hin' q' hq
        · rename_i hif
          rw [Bool.and_eq_true, Bool.and_eq_true, List.length_map] at h'
          have hr : t = "round" := of_decide_eq_true h'.1
          have l := of_decide_eq_true h'.2.1
          match ql, l with
          | [q, q2], _ =>
            have hin' : ∀ x ∈ [q2], twR x = x := fun x hx => hin x (by
              show x ∈ (if t = "if" then _ else if t = "round" then [nthR [q, q2] 1] else [])
              rw [if_neg hif, if_pos hr]
              exact hx)
            exact fin fun q' hq => by
              rcases List.mem_cons.mp hq with rfl | hq
              · exact tw_whole h'.2.2
              · exact hin' q' hq
theorem inn_tw {w : Nat} {r : R} (h : isRowR w (twR r) = true) : innR (twR r) = (innR r).map twR := by
  unfold isRowR at h
  cases e : hdS (twR r) with
  | none => rw [e] at h; cases h
  | some z =>
    obtain ⟨t, tl⟩ := z
    rw [e] at h
    obtain ⟨ql, rfl, rfl, ne⟩ := tw_hd e
    have h' : rowB w t (ql.map twR) = true := h
    have e1 : innR (twR (.tup (.str t :: ql))) = if t = "if" then [nthR (ql.map twR) 1, nthR (ql.map twR) 2] else if t = "round" then [nthR (ql.map twR) 1] else [] := by
      unfold innR; rw [e]
    have e0 : hdS (.tup (.str t :: ql)) = some (t, ql) := by
      cases ql with
      | nil => exact absurd rfl ne
      | cons y ql => rfl
    have e2 : innR (.tup (.str t :: ql)) = if t = "if" then [nthR ql 1, nthR ql 2] else if t = "round" then [nthR ql 1] else [] := by
      unfold innR; rw [e0]
    rw [e1, e2]
    unfold rowB at h'
    by_cases hif : t = "if"
    · rw [if_pos hif, if_pos hif]
      rw [if_neg (by rw [hif]; decide +kernel), if_neg (by rw [hif]; decide +kernel), if_pos hif, Bool.and_eq_true, List.length_map] at h'
      have l : ql.length = 3 := of_decide_eq_true h'.1
      rw [nth_map (by omega), nth_map (by omega)]; rfl
    · rw [if_neg hif, if_neg hif]
      by_cases hr : t = "round"
      · rw [if_pos hr, if_pos hr]
        rw [if_neg (by rw [hr]; decide +kernel), if_neg (by rw [hr]; decide +kernel), if_neg hif, Bool.and_eq_true, Bool.and_eq_true, List.length_map] at h'
        have l : ql.length = 2 := of_decide_eq_true h'.2.1
        rw [nth_map (by omega)]; rfl
      · rw [if_neg hr, if_neg hr]; rfl
theorem tw_ok {w : Nat} : ∀ (f t : Nat) (r : R), okF w f t (twR r) = true → twR r = r
  | 0, t, r, h => by
    cases e : twR r with
    | tup rs =>
      rw [e] at h
      obtain ⟨qs, rfl, rfl⟩ := tw_tup e
      have h' : ((qs.map twR).isEmpty && decide (t ≤ 3)) = true := h
      cases qs with
      | nil => rfl
      | cons q qs => cases h'
    | _ => rw [e] at h; cases h
  | f + 1, t, r, h => by
    cases e : twR r with
    | tup rs =>
      rw [e] at h
      obtain ⟨qs, rfl, rfl⟩ := tw_tup e
      have h' : (decide (t ≤ 3) && ((qs.map twR).all (isRowR w) && (qs.map twR).all fun r => (innR r).all (okF w f (t + rndQ r)))) = true := h
      rw [Bool.and_eq_true, Bool.and_eq_true, List.all_eq_true, List.all_eq_true] at h'
      congr 1
      refine tw_all fun q hq => ?_
      have m := List.mem_map_of_mem (f := twR) hq
      have h1 := h'.2.1 _ m
      have h2 := h'.2.2 _ m
      refine tw_row h1 fun x hx => ?_
      rw [inn_tw h1, List.all_eq_true] at h2
      exact tw_ok f _ x (h2 _ (List.mem_map_of_mem (f := twR) hx))
    | _ => rw [e] at h; cases h
/-- once more a program: the same -/
theorem tw_prog {w : Nat} {ns : List Str} {xs : List Rw} (h : isProgR (twR (progR w ns xs)) = true) : twR (progR w ns xs) = progR w ns xs := by
  have e : twR (progR w ns xs) = .tup [twR (.int w), twR (.tup (ns.map R.str)), twR (.tup (Rw.rl xs))] := rfl
  have en : twR (.tup (ns.map R.str)) = .tup (ns.map R.str) := by
    rw [twR, twRs_map, List.map_map]; rfl
  rw [e, en] at h ⊢
  cases q : twR (.int w) with
  | int i =>
    rw [q] at h
    have h' : (decide (1 ≤ i) && (decide (i ≤ 12) && (decide ((ns.map R.str).length ≤ 4) && ((ns.map R.str).all isNameR && isRowsR i.toNat (twR (.tup (Rw.rl xs))))))) = true := h
    simp only [Bool.and_eq_true] at h'
    have h5 := h'.2.2.2.2
    unfold isRowsR at h5
    rw [Bool.and_eq_true] at h5
    rw [← q, tw_ok 6 0 _ h5.1, q, ← tw_int q]
    rfl
  | _ => rw [q] at h; cases h
end
section
variable {P : Program} {w : World} {K : PySem.W.Frag} {mg : Str → Option Value} {base : Heap}
mutual
theorem tw_shw : ∀ r : R, r.shw = true → (twR r).shw = true ∧ (twR r).cnt = r.cnt ∧ (twR r).dep = r.dep
  | .int i, h => by
    rw [twR]
    split
    · exact ⟨rfl, rfl, rfl⟩
    · exact ⟨h, rfl, rfl⟩
  | .tup rs, h => by
    rw [twR]
    obtain ⟨h1, h2, h3⟩ := tws_shw rs h
    exact ⟨h1, by show 1 + _ = 1 + _; rw [h2], by show 1 + _ = 1 + _; rw [h3]⟩
  | .non, h => ⟨h, rfl, rfl⟩
  | .bl b, h => ⟨h, rfl, rfl⟩
  | .str s, h => ⟨h, rfl, rfl⟩
  | .lst rs, h => ⟨h, rfl, rfl⟩
  | .pt rs, h => ⟨h, rfl, rfl⟩
  | .o a, h => by cases h
  | .ty t, h => by cases h
  | .scr ns, h => by cases h
  | .ex _ _ _, h => by cases h
theorem tws_shw : ∀ rs : List R, R.shws rs = true → R.shws (twRs rs) = true ∧ R.cnts (twRs rs) = R.cnts rs ∧ R.deps (twRs rs) = R.deps rs
  | [], h => ⟨rfl, rfl, rfl⟩
  | r :: rs, h => by
    rw [R.shws, Bool.and_eq_true] at h
    obtain ⟨a1, a2, a3⟩ := tw_shw r h.1
    obtain ⟨b1, b2, b3⟩ := tws_shw rs h.2
    rw [twRs, R.shws, R.cnts, R.deps, a1, b1, a2, b2, a3, b3]
    exact ⟨rfl, rfl, rfl⟩
end
theorem tw_dt {k : Nat} {r : R} (h : Dt k r) : Dt k (twR r) := by
  induction h with
  | non k => exact .non k
  | bl k b => exact .bl k b
  | int k i =>
    rw [twR]
    split
    · exact .bl k _
    · exact .int k i
  | str k h1 h2 => exact .str k h1 h2
  | tup h1 _ ih =>
    rw [twR, twRs_map]
    refine .tup (by rw [List.length_map]; exact h1) fun r hr => ?_
    obtain ⟨q, hq, rfl⟩ := List.mem_map.mp hr
    exact ih q hq
  | lst h1 h2 _ => exact .lst h1 h2
end
section
variable {P : Program} {w : World} {K : PySem.W.Frag} {mg : Str → Option Value} {base : Heap}
def spFlat (d : Nat) : DSp := fun rs M Q _ => ∃ (w : Nat) (ns : List Str) (xs : List Rw), rs = [.tup (Rw.rl xs)] ∧ 1 ≤ d ∧ Rw.Vdl w ns d xs ∧ Rw.ctl xs ≤ 1000 ∧ ∀ M', Sub M M' → Q (.lst (Rw.all xs)) M'
theorem spFlat_void : ∀ rs M Q xw, ¬ spFlat 0 rs M Q xw := fun _ _ _ _ ⟨_, _, _, _, h, _⟩ => by omega
theorem ok__law_flat (T : Txt w K mg) : ∀ d : Nat, DFn P w K mg base (d + 2) (He.ga K "_law_flat") T.d__law_flat ["rows"] (spFlat d)
 | 0 => dfn_void T.F__law_flat sc__law_flat spFlat_void
 | d + 1 => by
  refine dfn_of T.F__law_flat sc__law_flat (fun cdv A outer s H E hr tk hp => ⟨_, (dss_cons (ds_set 1 sc__law_flat.nd (de_lstO da_nil))
    (dss_cons (ds_for hp rfl (di_tup (de_var 0)) (dg_name 2 sc__law_flat.nd) (dss_cons (ds_expr (de_append (de_var 1) (da_cons (de_var 2) da_nil)))
    (dss_cons (ds_for hp rfl (di_list (de_call (ok__law_ways T) (hr.mono (by omega)) T.g__law_ways T.F__law_ways.kp (b__law_ways T) tk (da_cons (de_var 2) da_nil))) (dg_name 3 sc__law_flat.nd) (dss_cons (ds_set 1 sc__law_flat.nd (de_op op_addU sim_addO (de_var 1) (de_call (ok__law_flat T d) (hr.mono (by omega)) T.g__law_flat T.F__law_flat.kp (b__law_flat T) tk (da_cons (de_var 3) da_nil))))
    dss_nil))
    dss_nil)))
    (dss_cons (ds_retF (de_var 1))
    dss_nil))), fun rs M Q xw h hl => ?_⟩)
  obtain ⟨w, ns, xs, rfl, d1, hv, hc, hQ⟩ := h
  have sl : sizeLine = 16777216 := by decide
  intro f hf
  have hfM : M f = none := hf
  refine ⟨fun i g' M' => ∃ (f : Addr) (s2 s3 : Option R), g' = [some (.tup (Rw.rl xs)), some (.o f), s2, s3] ∧ Sub M M' ∧ M f = none ∧ M' f = some (.lst (Rw.all (xs.take i))), ⟨_, _, _, rfl, Sub.new Sub.rfl' hfM, hfM, by rw [updM_same, List.take_zero, Rw.all]⟩, ?_, ?_⟩
  · rintro i r g' M' hr ⟨f, s2, s3, rfl, hs, hfM, hF⟩
    rw [rl_map, List.getElem?_map] at hr
    obtain ⟨x, hx, rfl⟩ := Option.map_eq_some_iff.mp hr
    have vx := vdl_mem hv (List.mem_of_getElem? hx)
    have e1 := ctl_take hx
    have e2 := ctl_take_le xs (i + 1)
    have l1 := all_len (xs.take i)
    have ci := inn_ct x
    refine ⟨⟨_, hF⟩, _, hF, by rw [l1]; omega, x, rfl, fun j g' M2 => ∃ (f : Addr) (s3 : Option R), g' = [some (.tup (Rw.rl xs)), some (.o f), some x.r, s3] ∧ Sub M M2 ∧ M f = none ∧ M2 f = some (.lst (Rw.all (xs.take i) ++ x.r :: ((x.inn.take j).map Rw.all).flatten)),
      ⟨f, _, rfl, Sub.new hs hfM, hfM, updM_same⟩, ?_, ?_⟩
    · rintro j r g' M2 hr2 ⟨f, s3, rfl, h1, hfM, h2⟩
      rw [List.getElem?_map] at hr2
      obtain ⟨p, hp, rfl⟩ := Option.map_eq_some_iff.mp hr2
      have vp := inn_vd vx p (List.mem_of_getElem? hp)
      have b1 := sum_take_le (x.inn.map Rw.ctl) (j + 1)
      have b2 : (x.inn.map Rw.ctl).take (j + 1) = (x.inn.take j).map Rw.ctl ++ [Rw.ctl p] := by
        rw [← List.map_take, List.take_succ, hp, List.map_append]; rfl
      rw [b2, List.sum_append] at b1
      have b3 : [Rw.ctl p].sum = Rw.ctl p := by simp
      have b4 := alls_len (x.inn.take j)
      have b5 := all_len p
      refine ⟨w, ns, p, rfl, vp.1, vp.2, by omega, fun M3 s3 => ⟨_, _, s3 _ _ h2, rfl, ?_, fun o ho => ?_⟩⟩
      · rw [List.length_append, List.length_cons, b4, b5, l1]; omega
      · have sM : Sub M M3 := fun b u e => s3 _ _ (h1 _ _ e)
        have ho' : M o = none := by
          cases q : M o with
          | none => rfl
          | some u => have := sM _ _ q; rw [show M3 o = none from ho] at this; cases this
        refine ⟨o, _, rfl, Sub.new sM ho', ho', ?_⟩
        rw [updM_same, List.take_succ, hp, List.map_append, List.flatten_append, List.append_assoc, List.cons_append]
        show _ = some (MO.lst (_ ++ x.r :: (_ ++ [Rw.all p].flatten)))
        rw [List.flatten_cons, List.flatten_nil, List.append_nil]
    · rintro g' M2 ⟨f, s3, rfl, h1, hfM, h2⟩
      refine ⟨f, _, _, rfl, h1, hfM, ?_⟩
      rw [h2, List.length_map, List.take_length, all_take hx, al_inn]
  · rintro g' M' ⟨f, s2, s3, rfl, hs, hfM, hF⟩
    have lr : (Rw.rl xs).length = xs.length := by rw [rl_map, List.length_map]
    rw [lr, List.take_length] at hF
    refine ⟨_, hF, _, Sub.rfl', hQ _ ?_⟩
    exact fun b u q => by
      have n : b ≠ f := fun z => by rw [z, hfM] at q; cases q
      unfold eraseM
      rw [if_neg n]
      exact hs b u q
end
section
variable {P : Program} {w : World} {K : PySem.W.Frag} {mg : Str → Option Value} {base : Heap}
def setNm : R → Option R
  | .tup (.str t :: y :: _) => if t = "set" then some y else none
  | _ => none
theorem sn_set (a : Str) (e : Xp) : setNm (Rw.set a e).r = some (.str a) := by
  rw [Rw.r]
  show (if ("set" : Str) = "set" then some (R.str a) else none) = some (R.str a)
  exact if_pos rfl
mutual
theorem th_sn : ∀ (x : Rw) (known : List Str) (a : Str), a ∈ x.th known → a ∈ known ∨ R.str a ∈ x.al.filterMap setNm
  | .set b e, known, a, h => by
    rw [Rw.th] at h
    rw [Rw.al]
    split at h
    · exact .inl h
    · rcases List.mem_append.mp h with h | h
      · exact .inl h
      · rw [List.mem_singleton.mp h]
        exact .inr (List.mem_filterMap.mpr ⟨_, List.mem_singleton.mpr rfl, sn_set b e⟩)
  | .tell b, known, a, h => by
    rw [Rw.th] at h
    exact .inl h
  | .iff b p q, known, a, h => by
    rw [Rw.th] at h
    rw [Rw.al]
    rcases thl_sn p known a (List.mem_filter.mp h).1 with h | h
    · exact .inl h
    · obtain ⟨r, hr, e⟩ := List.mem_filterMap.mp h
      exact .inr (List.mem_filterMap.mpr ⟨r, List.mem_cons_of_mem _ (List.mem_append_left _ hr), e⟩)
  | .rnd n p, known, a, h => by
    rw [Rw.th] at h
    rw [Rw.al]
    split at h
    · rcases thl_sn p known a h with h | h
      · exact .inl h
      · obtain ⟨r, hr, e⟩ := List.mem_filterMap.mp h
        exact .inr (List.mem_filterMap.mpr ⟨r, List.mem_cons_of_mem _ hr, e⟩)
    · exact .inl h
theorem thl_sn : ∀ (xs : List Rw) (known : List Str) (a : Str), a ∈ Rw.thl known xs → a ∈ known ∨ R.str a ∈ (Rw.all xs).filterMap setNm
  | [], known, a, h => by rw [Rw.thl] at h; exact .inl h
  | x :: xs, known, a, h => by
    rw [Rw.thl] at h
    rw [Rw.all, List.filterMap_append]
    rcases thl_sn xs _ a h with h | h
    · rcases th_sn x known a h with h | h
      · exact .inl h
      · exact .inr (List.mem_append_left _ h)
    · exact .inr (List.mem_append_right _ h)
end
mutual
theorem al_sn {w : Nat} {names : List Str} : ∀ (x : Rw) (d : Nat), Rw.Vd w names d x → ∀ r ∈ x.al, ∃ y : Rw, r = y.r ∧ ∀ a e, y = .set a e → a ∈ names
  | .set b e, d, v, r, hr => by
    rw [Rw.al] at hr
    rw [Rw.Vd] at v
    exact ⟨_, List.mem_singleton.mp hr, fun a e h => by cases h; exact v.1⟩
  | .tell b, d, v, r, hr => by
    rw [Rw.al] at hr
    exact ⟨_, List.mem_singleton.mp hr, nofun⟩
  | .iff b p q, d, v, r, hr => by
    rw [Rw.al] at hr
    rw [Rw.Vd] at v
    rcases List.mem_cons.mp hr with hr | hr
    · exact ⟨_, hr, nofun⟩
    · rcases List.mem_append.mp hr with hr | hr
      · exact all_sn p _ v.2.2.1 r hr
      · exact all_sn q _ v.2.2.2 r hr
  | .rnd n p, d, v, r, hr => by
    rw [Rw.al] at hr
    rw [Rw.Vd] at v
    rcases List.mem_cons.mp hr with hr | hr
    · exact ⟨_, hr, nofun⟩
    · exact all_sn p _ v.2.2 r hr
theorem all_sn {w : Nat} {names : List Str} : ∀ (xs : List Rw) (d : Nat), Rw.Vdl w names d xs → ∀ r ∈ Rw.all xs, ∃ y : Rw, r = y.r ∧ ∀ a e, y = .set a e → a ∈ names
  | [], d, v, r, hr => by rw [Rw.all] at hr; cases hr
  | x :: xs, d, v, r, hr => by
    rw [Rw.all] at hr
    rw [Rw.Vdl] at v
    rcases List.mem_append.mp hr with hr | hr
    · exact al_sn x d v.1 r hr
    · exact all_sn xs d v.2 r hr
end
def nobW : List Str := Txt.split "na nb nc nd ne nf ng nh ni nj nk nl" " "
theorem nobS : nobW.length = 12 ∧ nobW.Nodup ∧ (∀ s ∈ nobW, s.length = 2 ∧ ∀ c ∈ s.cps.toList, 97 ≤ c ∧ c < 123) := by decide +kernel
theorem sn_tell (a : Str) : setNm (Rw.tell a).r = none := by
  rw [Rw.r]
  show (if ("tell" : Str) = "set" then some (R.str a) else none) = none
  exact if_neg (by decide +kernel)
theorem sn_iff (a : Str) (p q : List Rw) : setNm (Rw.iff a p q).r = none := by
  rw [Rw.r]
  show (if ("if" : Str) = "set" then some (R.str a) else none) = none
  exact if_neg (by decide +kernel)
theorem sn_rnd (n : Nat) (p : List Rw) : setNm (Rw.rnd n p).r = none := by
  rw [Rw.r]
  show (if ("round" : Str) = "set" then some (R.int n) else none) = none
  exact if_neg (by decide +kernel)
theorem sn_strs {names : List Str} : ∀ (L : List R), (∀ r ∈ L, ∃ y : Rw, r = y.r ∧ ∀ a e, y = .set a e → a ∈ names) → ∃ ss : List Str, L.filterMap setNm = ss.map R.str ∧ ∀ s ∈ ss, s ∈ names
  | [], _ => ⟨[], rfl, nofun⟩
  | r :: L, h => by
    obtain ⟨ss, e, hs⟩ := sn_strs L fun r hr => h r (List.mem_cons_of_mem _ hr)
    obtain ⟨y, rfl, hy⟩ := h r List.mem_cons_self
    cases y with
    | set a x => exact ⟨a :: ss, by rw [List.filterMap_cons, sn_set, e]; rfl, fun s m => by
        rcases List.mem_cons.mp m with rfl | m
        · exact hy _ _ rfl
        · exact hs s m⟩
    | tell a => exact ⟨ss, by rw [List.filterMap_cons, sn_tell, e], hs⟩
    | iff a p q => exact ⟨ss, by rw [List.filterMap_cons, sn_iff, e], hs⟩
    | rnd n p => exact ⟨ss, by rw [List.filterMap_cons, sn_rnd, e], hs⟩
theorem stN : decide (("set" : Str) = "set") = true ∧ decide (("tell" : Str) = "set") = false ∧ decide (("if" : Str) = "set") = false ∧ decide (("round" : Str) = "set") = false := by decide +kernel
def spNobody : DSp := fun rs M Q _ => ∃ (w : Nat) (names ns : List Str) (xs : List Rw), rs = [progR w ns xs] ∧ PgOk w names ns xs ∧ ∀ nm M', nm ∈ nobW → nm ∉ ns → nm ∉ Rw.thl ns xs → Sub M M' → Q (.str nm) M'
theorem ok__law_nobody (T : Txt w K mg) : DFn P w K mg base 9 (He.ga K "_law_nobody") T.d__law_nobody ["program"] (spNobody) := by
  refine dfn_of T.F__law_nobody sc__law_nobody (fun cdv A outer s H E hr tk hp => ⟨_, (dss_cons (ds_set 1 sc__law_nobody.nd (de_op op_addU sim_add (de_callTy call_lstU sc_lst T.n_list (da_cons (de_ix (de_var 0) de_int) da_nil)) (de_lc (own := [("row", 2)]) rfl sc__law_nobody.nd (di_list (de_call (ok__law_flat T 6) (hr.mono (by decide)) T.g__law_flat T.F__law_flat.kp (b__law_flat T) tk (da_cons (de_ix (de_var 0) de_int) da_nil))) (blkOk_by (by show blkC ["program", "standing", "row", "word"] (defScope s__law_nobody) _ _ = true; decide +kernel)) (simc1 (by decide)) (fun _ _ _ _ _ => (pg_name (i := 2) sc__law_nobody.nd rfl (Or.inl rfl))) (fun _ _ _ _ _ => (dts_one (dt_cmp (op_eqU hr.hu) sim_eq (de_ix (de_var 2) de_int) de_str))) (fun _ _ _ _ _ => (de_ix (de_var 2) de_int)))))
    (dss_cons (ds_ret (de_ix (de_lc (own := [("word", 3)]) rfl sc__law_nobody.nd (di_list (de_split de_str de_str)) (blkOk_by (by show blkC ["program", "standing", "row", "word"] (defScope s__law_nobody) _ _ = true; decide +kernel)) (simc1 (by decide)) (fun _ _ _ _ _ => (pg_name (i := 3) sc__law_nobody.nd rfl (Or.inl rfl))) (fun _ _ _ _ _ => (dts_one (dt_cmp op_notInU sim_in (de_var 3) (de_var 1)))) (fun _ _ _ _ _ => (de_var 3))) de_int))
    dss_nil)), fun rs M Q xw h hl => ?_⟩)
  obtain ⟨w, names, ns, xs, rfl, p, hQ⟩ := h
  have sl : sizeLine = 16777216 := by decide
  have pct := p.ct
  have pnl := p.nl
  have al := all_len xs
  refine ⟨_, rfl, _, rfl, ?_⟩
  refine ⟨_, rfl, ?_⟩
  refine ⟨w, names, xs, rfl, by decide, p.vd, by omega, fun M1 s1 => ?_⟩
  refine ⟨by omega, fun i acc M2 => acc = ((Rw.all xs).take i).filterMap setNm ∧ Sub M M2, ⟨rfl, s1⟩, ?_, ?_⟩
  · rintro i r acc M2 hr - ⟨rfl, s2⟩
    obtain ⟨y, rfl, hy⟩ := all_sn xs 6 p.vd r (List.mem_of_getElem? hr)
    have e : ((Rw.all xs).take (i + 1)).filterMap setNm = ((Rw.all xs).take i).filterMap setNm ++ (setNm y.r).toList := by
      rw [List.take_succ, hr, List.filterMap_append]
      cases q : setNm y.r <;> simp [q]
    cases y with
    | set a x => rw [sn_set] at e; rw [Rw.r]; exact ⟨_, rfl, fun _ => ⟨_, rfl, e.symm, s2⟩, noF stN.1⟩
    | tell a => rw [sn_tell] at e; rw [Rw.r]; exact ⟨_, rfl, noT stN.2.1, fun _ => ⟨(List.append_nil _).symm.trans e.symm, s2⟩⟩
    | iff a p q => rw [sn_iff] at e; rw [Rw.r]; exact ⟨_, rfl, noT stN.2.2.1, fun _ => ⟨(List.append_nil _).symm.trans e.symm, s2⟩⟩
    | rnd n p => rw [sn_rnd] at e; rw [Rw.r]; exact ⟨_, rfl, noT stN.2.2.2, fun _ => ⟨(List.append_nil _).symm.trans e.symm, s2⟩⟩
  · rintro acc M2 hl ⟨rfl, s2⟩
    rw [List.take_length] at hl ⊢
    obtain ⟨ss, es, hs⟩ := sn_strs (Rw.all xs) (all_sn xs 6 p.vd)
    have ls : ss.length ≤ 60 := by
      have : ((Rw.all xs).filterMap setNm).length = ss.length := by rw [es, List.length_map]
      omega
    rw [es]
    refine ⟨_, _, rfl, rfl, by rw [List.length_map, List.length_map]; omega, ?_⟩
    have em : ns.map R.str ++ ss.map R.str = (ns ++ ss).map R.str := (List.map_append ..).symm
    rw [em]
    refine ⟨⟨_, rfl⟩, by decide +kernel, by decide +kernel, ?_⟩
    have lw : (nobW.map R.str).length = 12 := by rw [List.length_map]; exact nobS.1
    refine ⟨(show (nobW.map R.str).length < sizeLine by omega), fun i acc M3 => acc = (((nobW.take i).filter fun s => !decide (s ∈ ns ++ ss)).map R.str) ∧ Sub M M3, ⟨rfl, s2⟩, ?_, ?_⟩
    · rintro i r acc M3 hr - ⟨rfl, s3⟩
      have hr' : (nobW.map R.str)[i]? = some r := hr
      rw [List.getElem?_map] at hr'
      obtain ⟨u, hu, rfl⟩ := Option.map_eq_some_iff.mp hr'
      have e : (nobW.take (i + 1)).filter (fun s => !decide (s ∈ ns ++ ss)) = (nobW.take i).filter (fun s => !decide (s ∈ ns ++ ss)) ++ (if (!decide (u ∈ ns ++ ss)) = true then [u] else []) := by
        rw [List.take_succ, hu, List.filter_append]
        congr 1
        show [u].filter (fun s => !decide (s ∈ ns ++ ss)) = _
        by_cases m : (!decide (u ∈ ns ++ ss)) = true
        · rw [List.filter_cons, if_pos m, if_pos m]; rfl
        · rw [List.filter_cons, if_neg m, if_neg m]; rfl
      refine ⟨_, rfl, rfl, ?_, ?_⟩
      · rw [List.all_eq_true]
        intro r hr
        obtain ⟨s, _, rfl⟩ := List.mem_map.mp hr
        rfl
      · rw [in_strs]
        refine ⟨fun z => ⟨?_, s3⟩, fun z => ⟨?_, s3⟩⟩
        · rw [e, if_pos (show (!decide (u ∈ ns ++ ss)) = true from z), List.map_append]; rfl
        · rw [e, if_neg (by rw [show (!decide (u ∈ ns ++ ss)) = false from z]; decide), List.append_nil]
    · rintro acc M3 - ⟨rfl, s3⟩
      have e12 : nobW.take (nobW.map R.str).length = nobW := by rw [lw, ← nobS.1, List.take_length]
      have e13 : nobW.take ((Txt.split "na nb nc nd ne nf ng nh ni nj nk nl" " ").map R.str).length = nobW := e12
      rw [e13]
      cases q : nobW.filter fun s => !decide (s ∈ ns ++ ss) with
      | nil =>
        exfalso
        have all : ∀ s ∈ nobW, s ∈ names := fun s hs2 => by
          have n1 : s ∉ nobW.filter fun s => !decide (s ∈ ns ++ ss) := by rw [q]; exact nofun
          by_cases m : s ∈ ns ++ ss
          · rcases List.mem_append.mp m with m | m
            · exact p.sub s m
            · exact hs s m
          · exact absurd (List.mem_filter.mpr ⟨hs2, by rw [decide_eq_false m]; rfl⟩) n1
        have l1 := strs_le nobS.2.1 all
        have l2 := p.nn
        have l3 := nobS.1
        omega
      | cons u us =>
        have m : u ∈ nobW.filter fun s => !decide (s ∈ ns ++ ss) := by rw [q]; exact List.mem_cons_self
        obtain ⟨m1, m2⟩ := List.mem_filter.mp m
        have m3 : u ∉ ns ++ ss := fun z => by rw [decide_eq_true z] at m2; cases m2
        refine ⟨_, _, rfl, (by rw [List.map_cons, atI_nn (Int.le_refl _) (by rw [List.length_cons]; omega)]; rfl), _, Sub.rfl', hQ u _ m1 (fun z => m3 (List.mem_append_left _ z)) (fun z => ?_) s3⟩
        rcases thl_sn xs ns u z with z | z
        · exact m3 (List.mem_append_left _ z)
        · rw [es] at z
          obtain ⟨s, hs3, e⟩ := List.mem_map.mp z
          cases e
          exact m3 (List.mem_append_right _ hs3)
theorem nob_ok {nm : Str} (h : nm ∈ nobW) : NameOk nm := by
  obtain ⟨h1, h2⟩ := nobS.2.2 nm h
  exact ⟨by omega, by omega, fun c hc => ⟨(h2 c hc).1, by have := (h2 c hc).2; omega⟩⟩
end
section
variable {P : Program} {w : World} {K : PySem.W.Frag} {mg : Str → Option Value} {base : Heap}
mutual
theorem al_vd {w : Nat} {names : List Str} : ∀ (x : Rw) (d : Nat), d ≤ 6 → Rw.Vd w names d x → x.ct ≤ 60 → ∀ r ∈ x.al, ∃ y : Rw, r = y.r ∧ Rw.Vd w names 6 y ∧ y.ct ≤ 60
  | .set b e, d, hd, v, hc, r, hr => by
    rw [Rw.al] at hr
    exact ⟨_, List.mem_singleton.mp hr, vd_mono hd _ v, hc⟩
  | .tell b, d, hd, v, hc, r, hr => by
    rw [Rw.al] at hr
    exact ⟨_, List.mem_singleton.mp hr, vd_mono hd _ v, hc⟩
  | .iff b p q, d, hd, v, hc, r, hr => by
    rw [Rw.al] at hr
    rcases List.mem_cons.mp hr with hr | hr
    · exact ⟨_, hr, vd_mono hd _ v, hc⟩
    · rw [Rw.Vd] at v
      rw [Rw.ct] at hc
      rcases List.mem_append.mp hr with hr | hr
      · exact all_vd p _ (by omega) v.2.2.1 (by omega) r hr
      · exact all_vd q _ (by omega) v.2.2.2 (by omega) r hr
  | .rnd n p, d, hd, v, hc, r, hr => by
    rw [Rw.al] at hr
    rcases List.mem_cons.mp hr with hr | hr
    · exact ⟨_, hr, vd_mono hd _ v, hc⟩
    · rw [Rw.Vd] at v
      rw [Rw.ct] at hc
      exact all_vd p _ (by omega) v.2.2 (by omega) r hr
theorem all_vd {w : Nat} {names : List Str} : ∀ (xs : List Rw) (d : Nat), d ≤ 6 → Rw.Vdl w names d xs → Rw.ctl xs ≤ 60 → ∀ r ∈ Rw.all xs, ∃ y : Rw, r = y.r ∧ Rw.Vd w names 6 y ∧ y.ct ≤ 60
  | [], d, hd, v, hc, r, hr => by rw [Rw.all] at hr; cases hr
  | x :: xs, d, hd, v, hc, r, hr => by
    rw [Rw.all] at hr
    rw [Rw.Vdl] at v
    rw [Rw.ctl] at hc
    rcases List.mem_append.mp hr with hr | hr
    · exact al_vd x d hd v.1 (by omega) r hr
    · exact all_vd xs d hd v.2 (by omega) r hr
end
mutual
theorem vd_sup {w : Nat} {S S' : List Str} (h : ∀ a ∈ S, a ∈ S') : ∀ (x : Rw) (d : Nat), Rw.Vd w S d x → Rw.Vd w S' d x
  | .set a e, d, v => by
    rw [Rw.Vd] at v ⊢
    exact ⟨h a v.1, ⟨v.2.ok, v.2.num, v.2.mv, fun b hb => h b (v.2.ns b hb)⟩⟩
  | .tell a, d, v => by
    rw [Rw.Vd] at v ⊢
    exact h a v
  | .iff a p q, d, v => by
    rw [Rw.Vd] at v ⊢
    exact ⟨h a v.1, v.2.1, vdl_sup h p _ v.2.2.1, vdl_sup h q _ v.2.2.2⟩
  | .rnd n p, d, v => by
    rw [Rw.Vd] at v ⊢
    exact ⟨v.1, v.2.1, vdl_sup h p _ v.2.2⟩
theorem vdl_sup {w : Nat} {S S' : List Str} (h : ∀ a ∈ S, a ∈ S') : ∀ (xs : List Rw) (d : Nat), Rw.Vdl w S d xs → Rw.Vdl w S' d xs
  | [], d, v => by rw [Rw.Vdl]; trivial
  | x :: xs, d, v => by
    rw [Rw.Vdl] at v ⊢
    exact ⟨vd_sup h x d v.1, vdl_sup h xs d v.2⟩
end
/-- with a name told that stands nowhere -/
theorem lone_ok {w : Nat} {names ns : List Str} {xs : List Rw} (p : PgOk w names ns xs) (v4 : Rw.Vdl w names 4 xs) (hc : Rw.ctl xs ≤ 59) {nm : Str} (hn : NameOk nm) (h : nm ∉ Rw.thl ns xs) :
    PfOk w (nm :: names) ns (xs ++ [.tell nm]) ∧ wrongO ns (xs ++ [.tell nm]) ≠ none := by
  have v5 : Rw.Vdl w (nm :: names) 4 (xs ++ [.tell nm]) := (vdl_app _ _).mpr ⟨vdl_sup (fun a ha => List.mem_cons_of_mem _ ha) xs 4 v4, by rw [Rw.Vdl, Rw.Vd, Rw.Vdl]; exact ⟨List.mem_cons_self, trivial⟩⟩
  refine ⟨⟨p.w1, p.w2, fun s hs => ?_, fun s hs => List.mem_cons_of_mem _ (p.sub s hs), p.nl, vdl_mono (d := 4) (by decide) _ v5, Nat.le_trans (trl_le _ 4 v5) (by decide), ?_⟩, fun z => ?_⟩
  · rcases List.mem_cons.mp hs with rfl | hs
    · exact hn
    · exact p.nm s hs
  · rw [ctl_app, Rw.ctl, Rw.ctl, Rw.ct]; omega
  · unfold wrongO at z
    split at z
    · cases z
    · split at z
      · cases z
      · rename_i e
        have so := (lkl_so _ _ _).mp e
        have s2 := ((sol_app _ _ _).mp so).2
        rw [Rw.Sol, Rw.So] at s2
        exact h s2.1
theorem place_ok {n : Nat} (h : n ≤ 60) : ∀ r ∈ [R.non, .int (-1), .int (n : Int), .bl true, .str "0", .tup [.int 0], .lst [.int 0], .int (10 ^ 30)], Dt 1 r ∧ isWholeR r 0 ((n : Nat) - 1 : Int) = false := by
  intro r hr
  simp only [List.mem_cons, List.not_mem_nil, or_false] at hr
  rcases hr with rfl | rfl | rfl | rfl | rfl | rfl | rfl | rfl
  · exact ⟨.non _, rfl⟩
  · exact ⟨.int _ _, rfl⟩
  · refine ⟨.int _ _, ?_⟩
    show (decide ((0 : Int) ≤ n) && decide ((n : Int) ≤ n - 1)) = false
    rw [decide_eq_false (by omega : ¬ (n : Int) ≤ n - 1), Bool.and_false]
  · exact ⟨.bl _ _, rfl⟩
  · exact ⟨.str _ (by decide +kernel) (by decide +kernel), rfl⟩
  · exact ⟨.tup (by decide : 1 ≤ 1000) fun r hr => by rw [List.mem_singleton.mp hr]; exact .int _ _, rfl⟩
  · exact ⟨.lst (by decide : 1 ≤ 1000) fun r hr => by rw [List.mem_singleton.mp hr]; exact .int _ _, rfl⟩
  · refine ⟨.int _ _, ?_⟩
    show (decide ((0 : Int) ≤ 10 ^ 30) && decide ((10 ^ 30 : Int) ≤ n - 1)) = false
    rw [decide_eq_false (by omega : ¬ (10 ^ 30 : Int) ≤ n - 1), Bool.and_false]
end
section
variable {P : Program} {w : World} {K : PySem.W.Frag} {mg : Str → Option Value} {base : Heap}
theorem mulS {i j : Int} (h : 0 ≤ i) (h2 : i < 2 ^ 64) : CMul i j ∨ CMulW i j := .inl (.inl ⟨by omega, h2⟩)
theorem mulT {i j : Int} (h : 0 ≤ j) (h2 : j < 2 ^ 64) : CMul i j ∨ CMulW i j := .inl (.inr ⟨by omega, h2⟩)
theorem modB {i m : Int} (h : 0 < m) : 0 ≤ i % m ∧ i % m < m := ⟨Int.emod_nonneg _ (by omega), Int.emod_lt_of_pos _ h⟩
theorem ok__law_mixed (T : Txt w K mg) : DFn P w K mg base 1 (He.ga K "_law_mixed") T.d__law_mixed ["cell", "k"] (spMixed) := by
  refine dfn_of T.F__law_mixed sc__law_mixed (fun cdv A outer s H E hr tk hp => ⟨_, (dss_cons (ds_set 2 sc__law_mixed.nd (de_op op_mod sim_IC (de_op op_addU sim_add (de_op op_addU sim_add (de_op op_addU sim_add (de_op op_mod sim_IC (de_var 0) de_int) (de_op op_mulU sim_mul (de_op op_mulU sim_mul de_int (de_var 1)) (de_var 1))) (de_op op_mulU sim_mul de_int (de_var 1))) de_int) de_int))
    (dss_cons (ds_set 2 sc__law_mixed.nd (de_op op_mod sim_IC (de_op op_mulU sim_mul (de_op op_mod sim_IC (de_op op_mulU sim_mul (de_var 2) (de_var 2)) de_int) (de_var 2)) de_int))
    (dss_cons (ds_ret (de_op op_fdivW sim_IC (de_op op_mod sim_IC (de_op op_mulU sim_mul (de_var 2) (de_op op_addU sim_add de_int (de_op op_mulU sim_mul de_int (de_op op_mod sim_IC (de_var 1) de_int)))) de_int) de_int))
    dss_nil))), fun rs M Q xw h hl => ?_⟩)
  obtain ⟨c, k, rfl, h0, h1, hQ⟩ := h
  have p0 : (0 : Int) < 1000000007 := by decide
  have p : (0 : Int) < 2147483647 := by decide
  have q : (0 : Int) < 2147483629 := by decide
  have t : (0 : Int) < 1000 := by decide
  have s7 : CDivW 0 7 := divOk (by decide) (by decide)
  have k1 : k < 2 ^ 64 := by omega
  refine ⟨p0, mulS (by decide) (by decide), mulT h0 k1, mulT h0 k1, p, ?_⟩
  refine ⟨mulS (modB p).1 (Int.lt_trans (modB p).2 (by decide)), p, mulS (modB p).1 (Int.lt_trans (modB p).2 (by decide)), q, ?_⟩
  refine ⟨t, mulS (by decide) (by decide), mulS (modB q).1 (Int.lt_trans (modB q).2 (by decide)), p, s7, M, Sub.rfl', hQ _ ?_⟩
  exact Int.ediv_nonneg (modB p).1 (by decide)
end
section
variable {P : Program} {w : World} {K : PySem.W.Frag} {mg : Str → Option Value} {base : Heap}
/-- the draw told to the sign -/
def spNext0 : DSp := fun rs M Q _ => ∃ a m n ns t l u, rs = [.o a, .int m] ∧ M a = some (.dK (drKvs ns t l u)) ∧ DrOk n ns t l u ∧ n < 2 ^ 60 ∧ CDivW 0 m ∧
  ∀ i t' l' u', 0 ≤ i → i < m → DrOk (n + 1) ns t' l' u' → Q (.int i) (updM M a (.dK (drKvs ns t' l' u')))
theorem getAt {ns : List Int} {t : Int} (h : 1 ≤ ns.length) : ∃ c : Int, atI (ns.map R.int) (t % ((ns.map R.int).length : Int)) = some (.int c) := by
  have e : (ns.map R.int).length = ns.length := List.length_map ..
  obtain ⟨r, h1, h2⟩ := atI_some (xs := ns.map R.int) (i := t % ((ns.map R.int).length : Int)) (Int.emod_nonneg _ (by omega)) (Int.emod_lt_of_pos _ (by omega))
  obtain ⟨c, _, rfl⟩ := List.mem_map.mp h2
  exact ⟨c, h1⟩
theorem ok0__law_next (T : Txt w K mg) : DFn P w K mg base 2 (He.ga K "_law_next") T.d__law_next ["draw", "many"] (spNext0) := by
  refine dfn_of T.F__law_next sc__law_next (fun cdv A outer s H E hr tk hp => ⟨_, (dss_cons (ds_if (dt_cmp op_gt sim_B0 (de_dget hr.hu (de_var 0) de_str) de_int) (dss_cons (ds_set 2 sc__law_next.nd (de_op op_mod sim_IC (de_dget hr.hu (de_var 0) de_str) (de_var 1)))
    (dss_cons (ds_dput hr.hu (de_var 0) de_str (de_op op_fdivW sim_IC (de_dget hr.hu (de_var 0) de_str) (de_var 1)))
    (dss_cons (ds_ret (de_var 2))
    dss_nil))) dss_nil)
    (dss_cons (ds_set 3 sc__law_next.nd (de_dget hr.hu (de_var 0) de_str))
    (dss_cons (ds_set 4 sc__law_next.nd (de_ix (de_var 3) (de_op op_mod sim_IC (de_dget hr.hu (de_var 0) de_str) (de_callB call_lenU sc_len T.n_len (da_cons (de_var 3) da_nil)))))
    (dss_cons (ds_dput hr.hu (de_var 0) de_str (de_op op_addU sim_add (de_dget hr.hu (de_var 0) de_str) de_int))
    (dss_cons (ds_if (DW.dt (dw_and (dt_cmp op_ge sim_B0 (de_var 4) (de_op op_pow sim_IC de_int de_int)) (dw_and1 (dt_cmp op_le sim_B0 (de_dget hr.hu (de_var 0) de_str) (de_callB call_lenU sc_len T.n_len (da_cons (de_var 3) da_nil)))))) (dss_cons (ds_dput hr.hu (de_var 0) de_str (de_op op_fdivW sim_IC (de_var 4) (de_var 1)))
    (dss_cons (ds_ret (de_op op_mod sim_IC (de_var 4) (de_var 1)))
    dss_nil)) dss_nil)
    (dss_cons (ds_dput hr.hu (de_var 0) de_str (de_op op_addU sim_add (de_dget hr.hu (de_var 0) de_str) de_int))
    (dss_cons (ds_ret (de_op op_mod sim_IC (de_call (ok__law_mixed T) (hr.mono (by decide)) T.g__law_mixed T.F__law_mixed.kp (b__law_mixed T) tk (da_cons (de_call (ok__law_mixed T) (hr.mono (by decide)) T.g__law_mixed T.F__law_mixed.kp (b__law_mixed T) tk (da_cons (de_var 4) (da_cons (de_dget hr.hu (de_var 0) de_str) da_nil))) (da_cons (de_dget hr.hu (de_var 0) de_str) da_nil))) (de_var 1)))
    dss_nil))))))), fun rs M Q xw h hl => ?_⟩)
  obtain ⟨a, m, n, ns, t, l, u, rfl, hM, d, hn, hm, hQ⟩ := h
  have m0 : 0 < m := hm.1
  have s4 : 4 < sizeLine := by decide
  obtain ⟨d1, d2, d3, d4⟩ := d.at0
  obtain ⟨c, hc⟩ := getAt (ns := ns) (t := t) d.len.1
  refine ⟨_, _, hM, rfl, fun z => ?_, fun z => ?_⟩
  · refine ⟨_, _, hM, rfl, m0, _, _, hM, rfl, hm, _, hM, s4, _, Sub.rfl', ?_⟩
    exact hQ (l % m) t (l / m) u (modB m0).1 (modB m0).2 ⟨d.len, by omega, Int.ediv_nonneg d.left0 (Int.le_of_lt m0)⟩
  refine ⟨_, _, hM, rfl, _, _, hM, rfl, ?_, _, _, rfl, hc, _, _, hM, rfl, _, hM, s4, ?_⟩
  · show (0 : Int) < ((ns.map R.int).length : Int)
    rw [List.length_map]; have := d.len.1; omega
  have A1 : ∀ (l' u' : Int), updM M a (.dK (drKvs ns (t + 1) l' u')) a = some (.dK (drKvs ns (t + 1) l' u')) := fun _ _ => updM_same
  have n1 : ((n + 1 : Nat) : Int) = (n : Int) + 1 := by omega
  refine ⟨⟨by decide, by decide, by decide⟩, fun z1 => ⟨_, _, A1 l u, rfl, fun z2 => ?_, fun z2 => ?_⟩, fun z1 => ⟨nt, fun _ => ?_⟩⟩
  · have c0 : (10 : Int) ^ 18 ≤ c := of_decide_eq_true z1
    have c1 : 0 ≤ c := Int.le_trans (by decide) c0
    refine ⟨hm, _, A1 l u, s4, m0, _, Sub.rfl', ?_⟩
    rw [updM_updM]
    exact hQ (c % m) (t + 1) (c / m) u (modB m0).1 (modB m0).2 ⟨d.len, by omega, Int.ediv_nonneg c1 (Int.le_of_lt m0)⟩
  all_goals
    refine ⟨_, _, A1 l u, rfl, _, A1 l u, s4, ?_⟩
    rw [updM_updM]
    have A2 := A1 l (u + 1)
    refine ⟨_, _, A2, rfl, c, t + 1, rfl, by omega, by omega, fun i i0 => ⟨_, _, A2, rfl, i, u + 1, rfl, by omega, by omega, fun i' i0' => ⟨m0, _, Sub.rfl', ?_⟩⟩⟩
    exact hQ (i' % m) (t + 1) l (u + 1) (modB m0).1 (modB m0).2 ⟨d.len, by omega, d.left0⟩
theorem ok__law_next (T : Txt w K mg) : DFn P w K mg base 2 (He.ga K "_law_next") T.d__law_next ["draw", "many"] (spNext) := ((ok0__law_next T).opened 1).imp fun rs M Q _ h => by
  obtain ⟨a, m, n, rfl, hM, hn, hm, hQ⟩ := h
  refine ⟨a, _, rfl, n, hM, fun ns t l u h0 => ⟨a, m, n, ns, t, l, u, rfl, updM_same, h0, hn, hm, fun i t' l' u' i0 i1 h1 => ⟨ns, t', l', u', h1, ?_, ?_⟩⟩⟩
  · rw [updM_updM, updM_same]
  · rw [updM_updM, updM_updM]
    exact hQ i i0 i1
end
section
variable {P : Program} {w : World} {K : PySem.W.Frag} {mg : Str → Option Value} {base : Heap}
theorem lst_py5 {rs : List R} {d : PyData} (e : (R.lst rs).py = some d) : ∃ ds, R.pys rs = some ds ∧ d = .list ds := by
  rw [R.py] at e
  obtain ⟨ds, e1, e2⟩ := Option.map_eq_some_iff.mp e
  exact ⟨ds, e1, e2.symm⟩
theorem pys_lst {A : List R} {rs : List R} {ds : List PyData} (h : R.pys (.lst A :: rs) = some ds) : ∃ a es, R.pys A = some a ∧ R.pys rs = some es ∧ ds = .list a :: es := by
  rw [R.pys, R.py] at h
  cases e1 : R.pys A with
  | none => rw [e1] at h; cases h
  | some a =>
    rw [e1] at h
    cases e2 : R.pys rs with
    | none => rw [e2] at h; cases h
    | some es => rw [e2] at h; cases h; exact ⟨a, es, rfl, rfl, rfl⟩
theorem pf_px {K : PySem.W.Frag} {w : Nat} {names ns : List Str} {xs : List Rw} {M : MH} {xw : DX} {good : Nat → List Str → List Str → List Rw → Prop} (p : PfOk w names ns xs) (wo : wrongO ns xs = none) (h : good w names ns xs) : ProgX K (progR w ns xs) M xw good := by
  obtain ⟨h1, h2, _, _⟩ := prog_dt p
  exact ⟨h1, h2, .inr ⟨w, names, ns, xs, rfl, p, fun _ => h, fun pl t z => by rw [wo] at z; cases z⟩⟩
theorem noneA_of {M M' : MH} {o : Addr} (s : Sub M M') (h : M' o = none) : M o = none := by
  cases q : M o with
  | none => rfl
  | some u => rw [s _ _ q] at h; cases h
theorem ne_of {M : MH} {o p : Addr} {u : MO} (h : M o = some u) (g : M p = none) : o ≠ p := fun z => by rw [z, g] at h; cases h
def spRightP : DSp := fun rs M Q _ => ∃ (a : Addr) (n w : Nat) (names ns : List Str) (xs : List Rw), rs = [.o a, progR w ns xs] ∧ M a = some (.dr n) ∧ n < 2 ^ 40 ∧ PfOk w names ns xs ∧ wrongO ns xs = none ∧ 1 ≤ Rw.ctl xs ∧ ns.length + Rw.ctl xs ≤ 63 ∧ ∀ M', Sub (updM M a (.dr (n + 2))) M' → Q (.bl true) M'
theorem ok__law_right (T : Txt w K mg) : DFn P w K mg base 34 (He.ga K "_law_right") T.d__law_right ["draw", "program"] (spRightP) := by
  refine dfn_of T.F__law_right sc__law_right (fun cdv A outer s H E hr tk hp => ⟨_, (dss_cons (ds_set 2 sc__law_right.nd (de_call (ok__law_flat T 6) (hr.mono (by decide)) T.g__law_flat T.F__law_flat.kp (b__law_flat T) tk (da_cons (de_ix (de_var 1) de_int) da_nil)))
    (dss_cons (ds_set 3 sc__law_right.nd (de_lst (da_cons de_int (da_cons (de_op op_sub sim_I0 (de_callB call_lenU sc_len T.n_len (da_cons (de_var 2) da_nil)) de_int) (da_cons (de_call (ok__law_next T) (hr.mono (by decide)) T.g__law_next T.F__law_next.kp (b__law_next T) tk (da_cons (de_var 0) (da_cons (de_callB call_lenU sc_len T.n_len (da_cons (de_var 2) da_nil)) da_nil))) (da_cons (de_call (ok__law_next T) (hr.mono (by decide)) T.g__law_next T.F__law_next.kp (b__law_next T) tk (da_cons (de_var 0) (da_cons (de_callB call_lenU sc_len T.n_len (da_cons (de_var 2) da_nil)) da_nil))) da_nil))))))
    (dss_cons (ds_for hp rfl (di_list (de_var 3)) (dg_name 4 sc__law_right.nd) (dss_cons (ds_set 5 sc__law_right.nd (de_lstO (da_cons (de_var 2) (da_cons (de_lc (own := [("k", 9), ("row", 10)]) rfl sc__law_right.nd (di_enum T.n_enumerate (de_var 2)) (blkOk_by (by show blkC ["draw", "program", "rows", "spots", "place", "due", "turn", "found", "one", "k", "row"] (defScope s__law_right) _ _ = true; decide +kernel)) (simc2 (by decide) (by decide)) (fun _ _ _ _ _ => (pg_tup rfl (pgs_cons (pg_name (i := 9) sc__law_right.nd rfl (Or.inl rfl)) (pgs_cons (pg_name (i := 10) sc__law_right.nd rfl (Or.inl rfl)) pgs_nil)))) (fun _ _ _ _ _ => (dts_one (dt_cmp (op_eqU hr.hu) sim_eq (de_ix (de_var 10) de_int) de_str))) (fun _ _ _ _ _ => (de_var 9))) (da_cons (de_call (ok__law_used T) (hr.mono (by decide)) T.g__law_used T.F__law_used.kp (b__law_used T) tk (da_cons (de_ix (de_var 2) (de_var 4)) da_nil)) da_nil)))))
    (dss_cons (ds_expr (de_append (de_var 5) (da_cons (de_callB cr_sortedS sc_sortSS T.n_sorted (da_cons (de_ix (de_call (ok__law_ahead T 6) (hr.mono (by decide)) T.g__law_ahead T.F__law_ahead.kp (b__law_ahead T) tk (da_cons (de_ix (de_var 1) de_int) (da_cons (de_callTy call_lstU sc_lst T.n_list (da_cons (de_ix (de_var 1) de_int) da_nil)) (da_cons (de_var 4) da_nil)))) de_int) da_nil)) da_nil)))
    (dss_cons (ds_for hp rfl (di_range1 T.n_range de_int) (dg_name 6 sc__law_right.nd) (dss_cons (ds_set 7 sc__law_right.nd (de_lst (da_cons (de_call (oko_places_of T) (hr.mono (by omega)) T.g_places_of T.F_places_of.kp (b_places_of T) tk (da_cons (de_var 1) da_nil)) (da_cons (de_call (oko_set_places T) (hr.mono (by omega)) T.g_set_places T.F_set_places.kp (b_set_places T) tk (da_cons (de_var 1) da_nil)) (da_cons (de_call (oko_uses T) (hr.mono (by omega)) T.g_uses T.F_uses.kp (b_uses T) tk (da_cons (de_ix (de_var 2) (de_var 4)) da_nil)) (da_cons (de_call (oko_names_at T) (hr.mono (by omega)) T.g_names_at T.F_names_at.kp (b_names_at T) tk (da_cons (de_var 1) (da_cons (de_var 4) da_nil))) da_nil))))))
    (dss_cons (ds_if (dt_cmp (op_neU hr.hu) sim_ne (de_callB (call_reprA hr) sc_reprL T.n_repr (da_cons (de_var 7) da_nil)) (de_callB (call_reprU hr) sc_repr T.n_repr (da_cons (de_var 5) da_nil))) (dss_cons (ds_ret de_bl)
    dss_nil) dss_nil)
    (dss_cons (ds_for hp rfl (di_list (de_var 7)) (dg_name 8 sc__law_right.nd) (dss_cons (ds_expr (de_append (de_var 8) (da_cons de_str da_nil)))
    dss_nil))
    dss_nil))))
    dss_nil))))
    (dss_cons (ds_ret de_bl)
    dss_nil)))), fun rs M Q xw h hl => ?_⟩)
  obtain ⟨a, n, w, names, ns, xs, rfl, hA, hn, p, wo, c1, c63, hQ⟩ := h
  have sl : sizeLine = 16777216 := by decide
  have pct := p.ct
  have pnl := p.nl
  have al := all_len xs
  refine ⟨_, rfl, w, names, xs, rfl, by decide, p.vd, by omega, fun M1 s1 => ?_⟩
  have A1 : M1 a = some (.dr n) := s1 _ _ hA
  refine ⟨a, ((Rw.all xs).length : Nat), n, rfl, A1, by omega, divOk (by omega) (by omega), fun u u0 u1 => ?_⟩
  refine ⟨a, ((Rw.all xs).length : Nat), n + 1, rfl, updM_same, by omega, divOk (by omega) (by omega), fun v v0 v1 => ?_⟩
  rw [updM_updM]
  have S1 : Sub (updM M a (.dr (n + 2))) (updM M1 a (.dr (n + 1 + 1))) := fun b q e => by
    by_cases z : b = a
    · rw [z, updM_same] at e ⊢; exact e
    · rw [updM_ne z] at e ⊢; exact s1 _ _ e
  refine ⟨fun i g' M' => ∃ s4 s5 s6 s7 s8 s9 s10 : Option R, g' = [some (.o a), some (progR w ns xs), some (.lst (Rw.all xs)), some (.lst [.int 0, .int (((Rw.all xs).length : Nat) - 1 : Int), .int u, .int v]), s4, s5, s6, s7, s8, s9, s10] ∧ Sub (updM M a (.dr (n + 2))) M', ⟨_, _, _, _, _, _, _, rfl, S1⟩, ?_, ?_⟩
  · rintro i r g' M' hr ⟨s4, s5, s6, s7, s8, s9', s10, rfl, hM⟩
    obtain ⟨pl, rfl, hpl⟩ : ∃ pl : Nat, r = .int (pl : Int) ∧ pl < Rw.ctl xs := by
      match i, hr with
      | 0, hr => cases hr; exact ⟨0, rfl, by omega⟩
      | 1, hr => cases hr; exact ⟨(Rw.all xs).length - 1, by rw [show (((Rw.all xs).length - 1 : Nat) : Int) = ((Rw.all xs).length : Int) - 1 by omega], by omega⟩
      | 2, hr => cases hr; exact ⟨u.toNat, by rw [Int.toNat_of_nonneg u0], by omega⟩
      | 3, hr => cases hr; exact ⟨v.toNat, by rw [Int.toNat_of_nonneg v0], by omega⟩
      | i + 4, hr => cases hr
    obtain ⟨q, hq⟩ : ∃ q, (Rw.all xs)[pl]? = some q := ⟨_, List.getElem?_eq_getElem (by omega)⟩
    obtain ⟨y, rfl, vy, cy⟩ := all_vd xs 6 (by decide) p.vd p.ct q (List.mem_of_getElem? hq)
    have hat : atI (Rw.all xs) (pl : Int) = some y.r := by rw [atI_nn (by omega) (by omega), Int.toNat_natCast]; exact hq
    have ll : (enumR (Rw.all xs)).length = (Rw.all xs).length := by simp [enumR]
    refine ⟨by rw [ll]; omega, fun i acc M2 => acc = natL (setsAt ((Rw.all xs).take i) 0) ∧ M2 = M', ⟨rfl, rfl⟩, ?_, ?_⟩
    · rintro i r acc M2 hr2 - ⟨rfl, rfl⟩
      obtain ⟨q, hq2, rfl⟩ := enumR_get hr2
      obtain ⟨x, rfl⟩ := all_r xs q (List.mem_of_getElem? hq2)
      obtain ⟨t, b, tl, er, eb, ec, en, _⟩ := szX x
      have st := setsAt_take hq2
      rw [er] at st ⊢
      have hat2 : atI (R.str t :: tl) 0 = some (.str t) := by rw [atI_nn (by decide) (by rw [List.length_cons]; omega)]; rfl
      refine ⟨rfl, .str t, hat2, fun z => ⟨?_, rfl⟩, fun z => ⟨?_, rfl⟩⟩
      · have z1 : decide (t = "set") = true := z
        rw [st, show isSetR (.tup (R.str t :: tl)) = decide (t = "set") from rfl, if_pos z1]
        unfold natL
        rw [List.map_append]; rfl
      · have z1 : decide (t = "set") = false := z
        rw [st, show isSetR (.tup (R.str t :: tl)) = decide (t = "set") from rfl, if_neg (by rw [z1]; exact Bool.false_ne_true), List.append_nil]
    rintro acc M2 - ⟨rfl, rfl⟩
    rw [ll, List.take_length, setsAt_all]
    refine ⟨_, y.r, rfl, hat, w, names, 6, y, rfl, vy, ?_⟩
    intro f hf
    have hfM : M2 f = none := hf
    obtain ⟨nb1, nb2⟩ := nal_bd xs 6 ns pl p.vd p.sub
    refine ⟨⟨_, updM_same⟩, _, rfl, _, rfl, _, rfl, w, names, ns, xs, pl, rfl, by decide, by decide, p.vd, by omega, fun M3 s3 => ?_⟩
    have ea : aheadL xs ns pl = (Rw.nal xs ns pl, -1) := by rw [aheadL, if_pos hpl]
    rw [ea]
    have F3 : M3 f = some (.lst [.lst (Rw.all xs), .lst (natL (Rw.spl xs 0)), .lst (y.us.map R.str)]) := s3 _ _ updM_same
    refine ⟨_, rfl, Rw.nal xs ns pl, rfl, by omega, fun ys pm so => ?_⟩
    refine ⟨_, F3, (show (3 : Nat) < 16777216 by decide), ?_⟩
    have S4 : Sub (updM M a (.dr (n + 2))) (updM M3 f (.lst ([.lst (Rw.all xs), .lst (natL (Rw.spl xs 0)), .lst (y.us.map R.str)] ++ [.lst (ys.map R.str)]))) := by
      refine Sub.new (fun b q e => s3 _ _ ?_) ?_
      · rw [updM_ne (fun z => by rw [z] at e; rw [hM _ _ e] at hfM; cases hfM)]
        exact hM _ _ e
      · cases q : updM M a (.dr (n + 2)) f with
        | none => rfl
        | some o => rw [hM _ _ q] at hfM; cases hfM
    have psh : (R.lst ([.lst (Rw.all xs), .lst (natL (Rw.spl xs 0)), .lst (y.us.map R.str)] ++ [.lst (ys.map R.str)])).shw = true ∧ (R.lst ([.lst (Rw.all xs), .lst (natL (Rw.spl xs 0)), .lst (y.us.map R.str)] ++ [.lst (ys.map R.str)])).cnt ≤ 5000 ∧ (R.lst ([.lst (Rw.all xs), .lst (natL (Rw.spl xs 0)), .lst (y.us.map R.str)] ++ [.lst (ys.map R.str)])).dep ≤ 40 := by
      obtain ⟨a1, a2, a3⟩ := all_shw p.w2 p.nm xs 6 (by decide) p.vd
      obtain ⟨b1, b2, b3⟩ := natL_sh5 (vs := Rw.spl xs 0) fun v hv => by have := ((spl_lt xs 0).2 v hv).2; omega
      obtain ⟨c1, c2, c3⟩ := strs_shw (ns := y.us) fun s hs => p.nm s ((us_bd vy).1 s hs)
      obtain ⟨e1, e2, e3⟩ := strs_shw (ns := ys) fun s hs => p.nm s (nb1 s (pm.mem_iff.mp hs))
      have ly := pm.length_eq
      have lb := spl_len xs 0
      have lu := (us_bd vy).2
      refine ⟨?_, ?_, ?_⟩
      · show (R.shws (Rw.all xs) && (R.shws (natL (Rw.spl xs 0)) && (R.shws (y.us.map R.str) && (R.shws (ys.map R.str) && true)))) = true
        rw [a1, b1, c1, e1]; rfl
      · show 1 + ((1 + R.cnts (Rw.all xs)) + ((1 + R.cnts (natL (Rw.spl xs 0))) + ((1 + R.cnts (y.us.map R.str)) + ((1 + R.cnts (ys.map R.str)) + 0)))) ≤ 5000
        omega
      · show 1 + max (1 + R.deps (Rw.all xs)) (max (1 + R.deps (natL (Rw.spl xs 0))) (max (1 + R.deps (y.us.map R.str)) (max (1 + R.deps (ys.map R.str)) 0))) ≤ 40
        omega
    obtain ⟨D, eD, d1, d2, d3, d4, _⟩ := reprD psh.1 (Nat.ble_eq_true_of_le psh.2.1) (Nat.ble_eq_true_of_le psh.2.2)
    obtain ⟨ds, p0, rfl⟩ := lst_py5 eD
    have p0' := p0
    obtain ⟨da, es1, pa, p1, rfl⟩ := pys_lst p0
    obtain ⟨db, es2, pb, p2, rfl⟩ := pys_lst p1
    obtain ⟨dc, es3, pc, p3, rfl⟩ := pys_lst p2
    obtain ⟨dd, es4, pd, p4, rfl⟩ := pys_lst p3
    cases p4
    refine ⟨⟨by decide, by decide⟩, fun t g2 M4 => ∃ t6 t7 t8 : Option R, g2 = [some (.o a), some (progR w ns xs), some (.lst (Rw.all xs)), some (.lst [.int 0, .int (((Rw.all xs).length : Nat) - 1 : Int), .int u, .int v]), some (.int (pl : Int)), some (.o f), t6, t7, t8, s9', s10] ∧ Sub (updM M a (.dr (n + 2))) M4 ∧ M4 f = some (.lst ([.lst (Rw.all xs), .lst (natL (Rw.spl xs 0)), .lst (y.us.map R.str)] ++ [.lst (ys.map R.str)])), ⟨_, _, _, rfl, S4, updM_same⟩, ?_, ?_⟩
    · rintro t r g2 M5 hr5 ⟨t6, t7, t8, rfl, S5, F5⟩
      obtain ⟨_, rfl⟩ := intsFrom_get hr5
      refine ⟨_, rfl, pf_px p wo fun M6 o1 s6 n1 h1 => ?_⟩
      refine ⟨_, rfl, pf_px p wo fun M7 o2 s7 n2 h2 => ?_⟩
      refine ⟨_, y.r, rfl, hat, w, names, 6, y, rfl, vy, fun o3 n3 => ?_⟩
      refine ⟨_, _, 0, rfl, .int _ _, pf_px p wo ⟨fun k ek hk => ?_, fun ek => ?_⟩⟩
      · cases ek
        refine ⟨by omega, fun M9 ys2 o4 s9 n4 h4 pm2 so2 => ?_⟩
        have ey : ys2 = ys := sorted_one (pm2.trans pm.symm) so2 so
        subst ey
        have m1 := noneA_of S5 n1
        have s67 := Sub.trans s6 s7
        have m2 := noneA_of (Sub.trans S5 s6) n2
        have m3 := noneA_of (Sub.trans S5 s67) n3
        have s8 : Sub M7 (updM M7 o3 (.lst (y.us.map R.str))) := Sub.new Sub.rfl' n3
        have s79 := Sub.trans s8 s9
        have s59 := Sub.trans s67 s79
        have m4 := noneA_of (Sub.trans S5 (Sub.trans s67 s8)) n4
        have g1 := s79 _ _ (s7 _ _ h1)
        have g2 := s79 _ _ h2
        have g3 := s9 _ _ (updM_same (M := M7) (a := o3) (m := .lst (y.us.map R.str)))
        have g5 := s59 _ _ F5
        have f1 : o1 ≠ f := (ne_of F5 n1).symm
        have f2 : o2 ≠ f := (ne_of (s6 _ _ F5) n2).symm
        have f3 : o3 ≠ f := (ne_of (s67 _ _ F5) n3).symm
        have f4 : o4 ≠ f := (ne_of (s8 _ _ (s67 _ _ F5)) n4).symm
        refine ⟨[.list da, .list db, .list dc, .list dd], ⟨.inr ⟨_, _, _, rfl, g1, pa, rfl⟩, .inr ⟨_, _, _, rfl, g2, pb, rfl⟩, .inr ⟨_, _, _, rfl, g3, pc, rfl⟩, .inr ⟨_, _, _, rfl, h4, pd, rfl⟩, trivial⟩, d1, d2, d3, d4, ?_⟩
        refine ⟨_, .inr ⟨f, _, _, rfl, g5, p0', rfl⟩, d1, d2, d3, d4, ⟨[], .inr (.inr ⟨f, rfl⟩)⟩, fun e => noNe e, fun _ => ?_⟩
        have ly := pm.length_eq
        have lb := spl_len xs 0
        have lu := (us_bd vy).2
        have S9 := Sub.trans S5 s59
        have le4 : ∀ o ∈ [o1, o2, o3, o4], o ≠ f ∧ updM M a (.dr (n + 2)) o = none := fun o ho => by
          simp only [List.mem_cons, List.not_mem_nil, or_false] at ho
          rcases ho with rfl | rfl | rfl | rfl
          · exact ⟨f1, m1⟩
          · exact ⟨f2, m2⟩
          · exact ⟨f3, m3⟩
          · exact ⟨f4, m4⟩
        refine ⟨fun j g3 M10 => ∃ t8 : Option R, g3 = [some (.o a), some (progR w ns xs), some (.lst (Rw.all xs)), some (.lst [.int 0, .int (((Rw.all xs).length : Nat) - 1 : Int), .int u, .int v]), some (.int (pl : Int)), some (.o f), some (.int (0 + (t : Int))), some (.lst [.o o1, .o o2, .o o3, .o o4]), t8, s9', s10] ∧ Sub (updM M a (.dr (n + 2))) M10 ∧ M10 f = some (.lst ([.lst (Rw.all xs), .lst (natL (Rw.spl xs 0)), .lst (y.us.map R.str)] ++ [.lst (ys2.map R.str)])) ∧ ∀ o ∈ [o1, o2, o3, o4], ∃ l, M10 o = some (.lst l) ∧ l.length ≤ 1000 + j, ⟨_, rfl, S9, g5, fun o ho => ?_⟩, ?_, ?_⟩
        · simp only [List.mem_cons, List.not_mem_nil, or_false] at ho
          rcases ho with rfl | rfl | rfl | rfl
          · exact ⟨_, g1, by omega⟩
          · exact ⟨_, g2, by unfold natL; rw [List.length_map]; omega⟩
          · exact ⟨_, g3, by rw [List.length_map]; omega⟩
          · exact ⟨_, h4, by rw [List.length_map]; omega⟩
        · rintro j r g3 M10 hr10 ⟨t8, rfl, S10, F10, L10⟩
          have jl : j < 4 := (List.getElem?_eq_some_iff.mp hr10).1
          obtain ⟨o, rfl, ho⟩ : ∃ o, r = .o o ∧ o ∈ [o1, o2, o3, o4] := by
            match j, hr10 with
            | 0, hr => cases hr; exact ⟨_, rfl, by simp⟩
            | 1, hr => cases hr; exact ⟨_, rfl, by simp⟩
            | 2, hr => cases hr; exact ⟨_, rfl, by simp⟩
            | 3, hr => cases hr; exact ⟨_, rfl, by simp⟩
            | j + 4, hr => cases hr
          obtain ⟨l, hl1, hl2⟩ := L10 o ho
          refine ⟨⟨_, hl1⟩, _, hl1, by omega, nxG rfl ⟨_, rfl, Sub.new S10 (le4 o ho).2, (updM_ne (Ne.symm (le4 o ho).1)).trans F10, fun q hq => ?_⟩⟩
          by_cases z : q = o
          · rw [z, updM_same]
            exact ⟨_, rfl, by rw [List.length_append]; show _ + 1 ≤ _; omega⟩
          · rw [updM_ne z]
            obtain ⟨l2, e1, e2⟩ := L10 q hq
            exact ⟨l2, e1, by omega⟩
        · rintro g3 M10 ⟨t8, rfl, S10, F10, L10⟩
          exact nxG rfl ⟨_, _, _, rfl, S10, F10⟩
      · rw [wholeY (by omega) (by omega)] at ek
        cases ek
    · rintro g2 M4 ⟨t6, t7, t8, rfl, S5, F5⟩
      exact nxG rfl ⟨_, _, _, _, _, _, _, rfl, S5⟩
  · rintro g' M' ⟨s4, s5, s6, s7, s8, s9, s10, rfl, hM⟩
    exact ⟨_, Sub.rfl', hQ _ hM⟩
end
section
variable {P : Program} {w : World} {K : PySem.W.Frag} {mg : Str → Option Value} {base : Heap}
abbrev lettersS : Str := "abcdefghijklmnopqrstuvwxyz"
theorem letter_all : ∀ k, k < 26 → lettersS.cps.toList[k]? = some (97 + k) := by decide +kernel
theorem letter_at {j : Int} (h : 0 ≤ j) (h2 : j < 26) : atI lettersS.cps.toList j = some (97 + j.toNat) := by
  have l : lettersS.cps.toList.length = 26 := by decide +kernel
  rw [atI_nn h (by rw [l]; exact h2), letter_all _ (by omega)]
theorem join_codes (cs : List Nat) : Txt.join "" (cs.map fun c => (⟨#[c]⟩ : Str)) = ⟨cs.toArray⟩ := by
  have e := PyProof.Rows.join_nil_signs ⟨cs.toArray⟩
  unfold PyProof.Rows.signs at e
  unfold PySem.Txt.join
  rw [StrLaws.glued_eq_join, show ("" : Str) = ⟨#[]⟩ from rfl]
  simpa using e
def twoS (k : Nat) : Str := ⟨#[97 + k / 26, 97 + k % 26]⟩
theorem two_inj {j k : Nat} (h : twoS j = twoS k) : j = k := by
  unfold twoS at h
  have h1 : (#[97 + j / 26, 97 + j % 26] : Array Nat) = #[97 + k / 26, 97 + k % 26] := congrArg Str.cps h
  have h2 := congrArg Array.toList h1
  simp at h2
  omega
theorem filt_one {f : Nat → Str} (hf : ∀ j k, f j = f k → j = k) (x : Str) : ∀ l : List Nat, l.Nodup → l.length ≤ (l.filter fun k => decide (f k ≠ x)).length + 1
  | [], _ => Nat.zero_le _
  | k :: l, hn => by
    rw [List.nodup_cons] at hn
    by_cases q : f k = x
    · have hfl : (l.filter fun j => decide (f j ≠ x)) = l := List.filter_eq_self.mpr fun j hj => decide_eq_true fun z => hn.1 (by rw [hf k j (q.trans z.symm)]; exact hj)
      rw [List.filter_cons, if_neg (by rw [decide_eq_false (fun z => z q)]; exact Bool.false_ne_true), hfl, List.length_cons]
      exact Nat.le_refl _
    · have := filt_one hf x l hn.2
      rw [List.filter_cons, if_pos (decide_eq_true q), List.length_cons, List.length_cons]
      omega
theorem filt_many {f : Nat → Str} (hf : ∀ j k, f j = f k → j = k) : ∀ (xs : List Str) (ks : List Nat), ks.Nodup → ks.length ≤ (ks.filter fun k => decide (f k ∉ xs)).length + xs.length
  | [], ks, _ => by
    rw [List.filter_eq_self.mpr fun k _ => decide_eq_true List.not_mem_nil]
    exact Nat.le_refl _
  | x :: xs, ks, h => by
    have ih := filt_many hf xs ks h
    have e : (ks.filter fun k => decide (f k ∉ x :: xs)) = (ks.filter fun k => decide (f k ∉ xs)).filter fun k => decide (f k ≠ x) := by
      rw [List.filter_filter]
      refine List.filter_congr fun k _ => ?_
      by_cases h1 : f k = x <;> by_cases h2 : f k ∈ xs <;> simp [h1, h2]
    have key := filt_one hf x _ (h.filter fun k => decide (f k ∉ xs))
    rw [e, List.length_cons]
    omega
theorem keyWords : ∀ s ∈ Txt.split "add or if set pick number round tell up copy" " ", NameOk s := by
  have h : ∀ s ∈ Txt.split "add or if set pick number round tell up copy" " ", 1 ≤ s.length ∧ s.length ≤ 8 ∧ (s.cps.toList.all fun c => decide (97 ≤ c ∧ c ≤ 122)) = true := by decide +kernel
  intro s hs
  obtain ⟨h1, h2, h3⟩ := h s hs
  exact ⟨h1, h2, fun c hc => of_decide_eq_true (List.all_eq_true.mp h3 c hc)⟩
theorem sum_one : ∀ cs : List Nat, ((cs.map fun c => (⟨#[c]⟩ : Str)).map (·.length)).sum = cs.length
  | [] => rfl
  | c :: cs => by
    rw [List.map_cons, List.map_cons, List.sum_cons, sum_one cs, List.length_cons]
    show 1 + cs.length = _
    omega
theorem keyLen : (Txt.split "add or if set pick number round tell up copy" " ").length = 10 := by decide +kernel
def fTwo (r : R) : R := match r with
  | .int k => .str (twoS k.toNat)
  | r => r
theorem twoList : ((intsFrom 0 (676 : Int).toNat).filter fun _ => true).map fTwo = ((List.range 676).map twoS).map R.str := by
  rw [filtT]
  unfold intsFrom
  rw [List.map_map, List.map_map]
  refine List.map_congr_left fun k _ => ?_
  show R.str (twoS (0 + (k : Int)).toNat) = _
  rw [Int.zero_add, Int.toNat_natCast]; rfl
def pNew (ws : List Str) (r : R) : Bool := match r with
  | .str s => !decide (s ∈ ws)
  | _ => false
theorem newList (ws : List Str) (ks : List Nat) : (((ks.map twoS).map R.str).filter (pNew ws)).map id = ((ks.filter fun k => decide (twoS k ∉ ws)).map twoS).map R.str := by
  rw [List.map_id, List.map_map, List.filter_map, List.map_map]
  have e : ks.filter (pNew ws ∘ (R.str ∘ twoS)) = ks.filter fun k => decide (twoS k ∉ ws) := List.filter_congr fun k _ => by
    show (!decide (twoS k ∈ ws)) = _
    by_cases h : twoS k ∈ ws
    · rw [decide_eq_true h, decide_eq_false (fun z => z h)]; rfl
    · rw [decide_eq_false h, decide_eq_true h]; rfl
  rw [e]
theorem two_ok {k : Nat} (h : k < 676) : NameOk (twoS k) := by
  refine ⟨by show 1 ≤ 2; decide, by show 2 ≤ 8; decide, fun c hc => ?_⟩
  have hc' : c ∈ [97 + k / 26, 97 + k % 26] := hc
  simp only [List.mem_cons, List.not_mem_nil, or_false] at hc'
  omega
def spWordsK : DSp := fun rs M Q _ => ∃ (a : Addr) (n K : Nat), rs = [.o a, .int (K : Int), .int 8] ∧ K ≤ 70 ∧ M a = some (.dr n) ∧ n < 2 ^ 50 ∧ ∀ (ws : List Str) (m : Nat) (M' : MH), ws.length = K → (∀ s ∈ ws, NameOk s) → ws.Nodup → m ≤ n + 14 * K → Sub (updM M a (.dr m)) M' → Q (.lst (ws.map R.str)) M'
theorem okk__law_words (T : Txt w K mg) : DFn P w K mg base 3 (He.ga K "_law_words") T.d__law_words ["draw", "many", "most"] (spWordsK) := by
  refine dfn_of T.F__law_words sc__law_words (fun cdv A outer s H E hr tk hp => ⟨_, (dss_cons (ds_set 3 sc__law_words.nd de_str)
    (dss_cons (ds_set 4 sc__law_words.nd (de_lstO da_nil))
    (dss_cons (ds_while hp (dt_cmp op_ltU sim_lt (de_callB call_lenU sc_len T.n_len (da_cons (de_var 4) da_nil)) (de_var 1)) (dss_cons (ds_set 5 sc__law_words.nd (de_ix (de_lst (da_cons (de_op op_addU sim_add de_int (de_call (ok__law_next T) (hr.mono (by decide)) T.g__law_next T.F__law_next.kp (b__law_next T) tk (da_cons (de_var 0) (da_cons de_int da_nil)))) (da_cons (de_op op_addU sim_add de_int (de_call (ok__law_next T) (hr.mono (by decide)) T.g__law_next T.F__law_next.kp (b__law_next T) tk (da_cons (de_var 0) (da_cons (de_var 2) da_nil)))) (da_cons (de_var 2) da_nil)))) (de_call (ok__law_next T) (hr.mono (by decide)) T.g__law_next T.F__law_next.kp (b__law_next T) tk (da_cons (de_var 0) (da_cons de_int da_nil)))))
    (dss_cons (ds_set 6 sc__law_words.nd (de_join de_str (de_lc (own := [("k", 8)]) rfl sc__law_words.nd (di_range1 T.n_range (de_var 5)) (blkOk_by (by show blkC ["draw", "many", "most", "letters", "found", "size", "word", "left", "k", "one"] (defScope s__law_words) _ _ = true; decide +kernel)) (simc1 (by decide)) (fun _ _ _ _ _ => (pg_name (i := 8) sc__law_words.nd rfl (Or.inl rfl))) (fun _ _ _ _ _ => dts_nil) (fun _ _ _ _ _ => (de_ix (de_var 3) (de_call (ok__law_next T) (hr.mono (by decide)) T.g__law_next T.F__law_next.kp (b__law_next T) takes0 (da_cons (de_var 0) (da_cons de_int da_nil))))))))
    (dss_cons (ds_if (dt_cmp (op_eqU hr.hu) sim_eq (de_call (ok__law_next T) (hr.mono (by decide)) T.g__law_next T.F__law_next.kp (b__law_next T) tk (da_cons (de_var 0) (da_cons de_int da_nil))) de_int) (dss_cons (ds_set 6 sc__law_words.nd (de_ix (de_split de_str de_str) (de_call (ok__law_next T) (hr.mono (by decide)) T.g__law_next T.F__law_next.kp (b__law_next T) tk (da_cons (de_var 0) (da_cons de_int da_nil)))))
    dss_nil) dss_nil)
    (dss_cons (ds_if (dt_cmp op_inU sim_in (de_var 6) (de_var 4)) (dss_cons (ds_setLc (i := 7) (own := [("k", 8)]) rfl sc__law_words.nd (di_range1 T.n_range de_int) (blkOk_by (by show blkC ["draw", "many", "most", "letters", "found", "size", "word", "left", "k", "one"] (defScope s__law_words) _ _ = true; decide +kernel)) (simc1 (by decide)) (fun _ _ _ _ _ => (pg_name (i := 8) sc__law_words.nd rfl (Or.inl rfl))) (fun _ _ _ _ _ => dts_nil) (fun _ _ _ _ _ => (de_op op_addU sim_add (de_ix (de_var 3) (de_op op_fdivW sim_IC (de_var 8) de_int)) (de_ix (de_var 3) (de_op op_mod sim_IC (de_var 8) de_int)))))
    (dss_cons (ds_set 6 sc__law_words.nd (de_ix (de_lc (own := [("one", 9)]) rfl sc__law_words.nd (di_list (de_var 7)) (blkOk_by (by show blkC ["draw", "many", "most", "letters", "found", "size", "word", "left", "k", "one"] (defScope s__law_words) _ _ = true; decide +kernel)) (simc1 (by decide)) (fun _ _ _ _ _ => (pg_name (i := 9) sc__law_words.nd rfl (Or.inl rfl))) (fun _ _ _ _ _ => (dts_one (dt_cmp op_notInU sim_in (de_var 9) (de_var 4)))) (fun _ _ _ _ _ => (de_var 9))) (de_call (ok__law_next T) (hr.mono (by decide)) T.g__law_next T.F__law_next.kp (b__law_next T) tk (da_cons (de_var 0) (da_cons de_int da_nil)))))
    dss_nil)) dss_nil)
    (dss_cons (ds_expr (de_append (de_var 4) (da_cons (de_var 6) da_nil)))
    dss_nil))))))
    (dss_cons (ds_retF (de_var 4))
    dss_nil)))), fun rs M Q xw h hl => ?_⟩)
  obtain ⟨a, n, K, rfl, hK70, hM, hn, hQ⟩ := h
  have slK : sizeLine = 16777216 := by decide
  intro f hf
  have hfM : M f = none := hf
  have af : a ≠ f := ne_new hM hf
  refine ⟨fun k g' M' => ∃ (ws : List Str) (m : Nat) (s5 s6 s7 s8 s9 : Option R), k = K - ws.length ∧ ws.length ≤ K ∧ (∀ s ∈ ws, NameOk s) ∧ ws.Nodup ∧ g' = [some (.o a), some (.int (K : Int)), some (.int 8), some (.str lettersS), some (.o f), s5, s6, s7, s8, s9] ∧
    m ≤ n + 14 * ws.length ∧ M' a = some (.dr m) ∧ M' f = some (.lst (ws.map R.str)) ∧ (∀ b u, b ≠ a → M b = some u → M' b = some u), ⟨_, [], n, _, _, _, _, _, rfl, Nat.zero_le _, fun s h => absurd h List.not_mem_nil, List.nodup_nil, rfl, Nat.le_refl _, keep_ne hM af, updM_same, fun b u hb e => by rw [updM_ne (fun z => by rw [z, hfM] at e; cases e)]; exact e⟩, ?_⟩
  rintro k g' M' ⟨ws, m, s5, s6, s7, s8, s9, rfl, hl, hok, hnd, rfl, hm, h1, h2, h3⟩
  refine .inl ⟨_, h2, fun q => ?_, fun q => ?_⟩
  · have hl7 : ws.length < K := by
      have := of_decide_eq_true q
      rw [List.length_map] at this
      omega
    refine ⟨a, 2, m, rfl, h1, by omega, divOk (by decide) (by decide), fun x x0 x1 => ?_⟩
    refine ⟨a, 8, _, rfl, updM_same, by omega, divOk (by decide) (by decide), fun y y0 y1 => ?_⟩
    refine ⟨a, 3, _, rfl, updM_same, by omega, divOk (by decide) (by decide), fun z z0 z1 => ?_⟩
    rw [updM_updM, updM_updM]
    obtain ⟨x, rfl⟩ := Int.eq_ofNat_of_zero_le x0
    obtain ⟨y, rfl⟩ := Int.eq_ofNat_of_zero_le y0
    refine pickL (n := 3) (show LsOf _ (.lst [.int (1 + (x : Int)), .int (1 + (y : Int)), .int 8]) _ from rfl) rfl z0 z1 fun r hr => ?_
    obtain ⟨sz, rfl, sz1, sz8⟩ : ∃ sz : Nat, r = .int (sz : Int) ∧ 1 ≤ sz ∧ sz ≤ 8 := by
      simp only [List.mem_cons, List.not_mem_nil, or_false] at hr
      rcases hr with rfl | rfl | rfl
      · exact ⟨1 + x, rfl, by omega, by omega⟩
      · exact ⟨1 + y, rfl, by omega, by omega⟩
      · exact ⟨8, rfl, by decide, by decide⟩
    refine ⟨⟨_, rfl⟩, ⟨by omega, by omega⟩, ?_, fun i acc M2 => ∃ cs : List Nat, cs.length = i ∧ acc = (cs.map fun c => (⟨#[c]⟩ : Str)).map R.str ∧ (∀ c ∈ cs, 97 ≤ c ∧ c ≤ 122) ∧ M2 = updM M' a (.dr (m + 3 + i)), ⟨[], rfl, rfl, fun c hc => absurd hc List.not_mem_nil, rfl⟩, ?_, ?_⟩
    · rw [intsFrom_len, Int.toNat_natCast]
      have sl : sizeLine = 16777216 := by decide
      omega
    · rintro i r acc M2 hr _ ⟨cs, hc, rfl, hcs, rfl⟩
      obtain ⟨hi, rfl⟩ := intsFrom_get hr
      rw [Int.toNat_natCast] at hi
      refine ⟨fun _ => ⟨a, 26, _, rfl, updM_same, by omega, divOk (by decide) (by decide), fun j j0 j1 => ?_⟩, tn⟩
      rw [updM_updM]
      refine ⟨by decide, _, letter_at j0 j1, cs ++ [97 + j.toNat], by rw [List.length_append, hc]; rfl, by rw [List.map_append, List.map_append]; rfl, fun c h => ?_, rfl⟩
      rcases List.mem_append.mp h with h | h
      · exact hcs c h
      · rw [List.mem_singleton.mp h]; omega
    rintro acc M2 _ ⟨cs, hc, rfl, hcs, rfl⟩
    rw [intsFrom_len, Int.toNat_natCast] at hc ⊢
    refine ⟨_, rfl, ?_, ?_⟩
    · rw [sum_one]
      show cs.length + _ * 0 ≤ 16777216
      omega
    rw [join_codes]
    have hw : NameOk ⟨cs.toArray⟩ := by
      have e : (⟨cs.toArray⟩ : Str).length = cs.length := by show cs.toArray.size = _; simp
      refine ⟨by rw [e]; omega, by rw [e]; omega, fun c h => hcs c (by simpa using h)⟩
    generalize (⟨cs.toArray⟩ : Str) = wd at hw ⊢
    clear hc hcs
    refine ⟨a, 9, _, rfl, updM_same, by omega, divOk (by decide) (by decide), fun j j0 j1 => ?_⟩
    rw [updM_updM]
    refine ⟨fun _ => ?_, fun _ => ?_⟩
    case' refine_1 =>
      refine ⟨⟨_, rfl⟩, by decide, by decide, a, 10, _, rfl, updM_same, by omega, divOk (by decide) (by decide), fun t t0 t1 => ?_⟩
      rw [updM_updM]
      obtain ⟨r2, hr2, hm2⟩ := atI_some (xs := (Txt.split "add or if set pick number round tell up copy" " ").map R.str) t0 (by rw [List.length_map, keyLen]; exact t1)
      obtain ⟨wd2, hw2, rfl⟩ := List.mem_map.mp hm2
      refine ⟨_, _, rfl, hr2, ?_⟩
      have hw := keyWords wd2 hw2
      clear hr2 hm2 hw2
      generalize hM2 : updM M' a (.dr (m + 3 + sz + 1 + 1)) = M2
      have hA : ∃ m2, m2 ≤ m + 13 ∧ M2 a = some (.dr m2) := ⟨m + 3 + sz + 1 + 1, by omega, by rw [← hM2]; exact updM_same⟩
    case' refine_2 =>
      generalize hM2 : updM M' a (.dr (m + 3 + sz + 1)) = M2
      have hA : ∃ m2, m2 ≤ m + 13 ∧ M2 a = some (.dr m2) := ⟨m + 3 + sz + 1, by omega, by rw [← hM2]; exact updM_same⟩
    all_goals
      have hF : M2 f = some (.lst (ws.map R.str)) := by rw [← hM2]; exact keep_ne h2 af.symm
      have hK : ∀ b u, b ≠ a → M b = some u → M2 b = some u := fun b u hb e => by rw [← hM2, updM_ne hb]; exact h3 b u hb e
      clear hM2
      obtain ⟨m2, hm2, hA⟩ := hA
      have sl : sizeLine = 16777216 := by decide
      have fin : ∀ (wd3 : Str) (m3 : Nat) (M3 : MH) (s5 s6 s7 s8 s9 : Option R), NameOk wd3 → wd3 ∉ ws → m3 ≤ m + 14 → M3 a = some (.dr m3) → M3 f = some (.lst (ws.map R.str)) → (∀ b u, b ≠ a → M b = some u → M3 b = some u) →
          (∃ rs, LsOf M3 (.o f) rs) ∧ ∃ rs, M3 f = some (.lst rs) ∧ rs.length < sizeLine ∧ ∃ m', m' < K - ws.length ∧ ∃ (ws : List Str) (m : Nat) (t5 t6 t7 t8 t9 : Option R), m' = K - ws.length ∧ ws.length ≤ K ∧ (∀ s ∈ ws, NameOk s) ∧ ws.Nodup ∧
            [some (.o a), some (.int (K : Int)), some (.int 8), some (.str lettersS), some (.o f), s5, s6, s7, s8, s9] = [some (.o a), some (.int (K : Int)), some (.int 8), some (.str lettersS), some (.o f), t5, t6, t7, t8, t9] ∧
            m ≤ n + 14 * ws.length ∧ updM M3 f (.lst (rs ++ [.str wd3])) a = some (.dr m) ∧ updM M3 f (.lst (rs ++ [.str wd3])) f = some (.lst (ws.map R.str)) ∧ (∀ b u, b ≠ a → M b = some u → updM M3 f (.lst (rs ++ [.str wd3])) b = some u) := by
        intro wd3 m3 M3 s5 s6 s7 s8 s9 g1 g2 g3 g4 g5 g6
        refine ⟨⟨_, g5⟩, _, g5, by rw [List.length_map]; omega, K - (ws ++ [wd3]).length, by rw [List.length_append, List.length_singleton]; omega, ws ++ [wd3], m3, s5, s6, s7, s8, s9, rfl, by rw [List.length_append, List.length_singleton]; omega, fun s hs => ?_, ?_, rfl, by rw [List.length_append, List.length_singleton]; omega, keep_ne g4 af, ?_, fun b u hb e => ?_⟩
        · rcases List.mem_append.mp hs with h | h
          · exact hok s h
          · rw [List.mem_singleton.mp h]; exact g1
        · refine List.nodup_append.mpr ⟨hnd, by simp, fun x hx y hy => ?_⟩
          rw [List.mem_singleton.mp hy]
          exact fun z => g2 (by rw [← z]; exact hx)
        · rw [updM_same, List.map_append]; rfl
        · rw [updM_ne (fun z => by rw [z, hfM] at e; cases e)]
          exact g6 b u hb e
      refine ⟨_, hF, rfl, flat_strs ws, fun q => ?_, fun q => ?_⟩
      · refine ⟨⟨by decide, by decide⟩, lenLt (k := 676) rfl (by decide), lcFM (fun _ => true) fTwo (fun r hr Pt Pf p1 _ => ?_) ?_⟩
        · obtain ⟨k, hk, rfl⟩ := List.mem_map.mp hr
          have hk' : k < 676 := List.mem_range.mp hk
          have l1 : atI lettersS.cps.toList ((0 + (k : Int)) / 26) = some (97 + k / 26) := by
            rw [letter_at (by omega) (by omega)]
            congr 1
            omega
          have l2 : atI lettersS.cps.toList ((0 + (k : Int)) % 26) = some (97 + k % 26) := by
            rw [letter_at (by omega) (by omega)]
            congr 1
            omega
          have e0 : fTwo (.int (0 + (k : Int))) = .str ((⟨#[97 + k / 26]⟩ : Str) ++ ⟨#[97 + k % 26]⟩) := by
            show R.str (twoS (0 + (k : Int)).toNat) = _
            rw [Int.zero_add, Int.toNat_natCast]; rfl
          have p2 := p1 rfl
          rw [e0] at p2
          exact ⟨fun _ => ⟨(divOk (by decide) (by decide) : CDivW 0 26), by decide, _, l1, show (0 : Int) < 26 by decide, by decide, _, l2, by show 1 + 1 ≤ sizeLine; decide, p2⟩, tn⟩
        rw [twoList]
        refine ⟨by rw [List.length_map, List.length_map, List.length_range]; decide, lcFM (pNew ws) id (fun r hr Pt Pf p1 p2 => ?_) ?_⟩
        · obtain ⟨s, hs, rfl⟩ := List.mem_map.mp hr
          have e : pNew ws (.str s) = !inR (.str s) (ws.map R.str) := by rw [in_strs]; rfl
          exact ⟨_, hF, rfl, flat_strs ws, fun y => p1 (e.trans y), fun y => p2 (e.trans y)⟩
        rw [newList]
        have fm := filt_many (fun j k h => two_inj h) ws (List.range 676) List.nodup_range
        rw [List.length_range] at fm
        refine ⟨a, 600, m2, rfl, hA, by omega, divOk (by decide) (by decide), fun t t0 t1 => ?_⟩
        obtain ⟨r3, hr3, hm3⟩ := atI_some (xs := (((List.range 676).filter fun k => decide (twoS k ∉ ws)).map twoS).map R.str) t0 (by rw [List.length_map, List.length_map]; omega)
        obtain ⟨wd3, hw3, rfl⟩ := List.mem_map.mp hm3
        obtain ⟨k, hk, rfl⟩ := List.mem_map.mp hw3
        obtain ⟨hk1, hk2⟩ := List.mem_filter.mp hk
        refine ⟨_, _, rfl, hr3, ?_⟩
        exact fin (twoS k) (m2 + 1) _ _ _ _ _ _ (two_ok (List.mem_range.mp hk1)) (of_decide_eq_true hk2) (by omega) updM_same (keep_ne hF af.symm) fun b u hb e => by rw [updM_ne hb]; exact hK b u hb e
      · have q' : decide (_ ∈ ws) = false := (in_strs _ ws).symm.trans q
        exact fin _ m2 M2 _ _ _ _ _ hw (of_decide_eq_false q') (by omega) hA hF hK
  · have hl7 : ws.length = K := by
      have := of_decide_eq_false q
      rw [List.length_map] at this
      omega
    refine ⟨_, h2, _, Sub.rfl', hQ ws m _ hl7 hok hnd (by omega) fun b u e => ?_⟩
    have nf : b ≠ f := fun z => by rw [z, updM_ne af.symm, hfM] at e; cases e
    show (if b = f then none else M' b) = some u
    rw [if_neg nf]
    by_cases z : b = a
    · rw [z, updM_same] at e; cases e; rw [z]; exact h1
    · rw [updM_ne z] at e; exact h3 b u z e
def spWords : DSp := fun rs M Q _ => ∃ (a : Addr) (n : Nat), rs = [.o a, .int 7, .int 8] ∧ M a = some (.dr n) ∧ n < 2 ^ 50 ∧ ∀ (ws : List Str) (m : Nat) (M' : MH), ws.length = 7 → (∀ s ∈ ws, NameOk s) → ws.Nodup → m ≤ n + 98 → Sub (updM M a (.dr m)) M' → Q (.lst (ws.map R.str)) M'
theorem ok__law_words (T : Txt w K mg) : DFn P w K mg base 3 (He.ga K "_law_words") T.d__law_words ["draw", "many", "most"] (spWords) := (okk__law_words T).imp fun _ _ _ _ ⟨a, n, e, hM, hn, hQ⟩ => ⟨a, n, 7, e, by decide, hM, hn, hQ⟩
end
section
variable {P : Program} {w : World} {K : PySem.W.Frag} {mg : Str → Option Value} {base : Heap}
/-- sixty names set, one after another -/
def grx (a : Nat) : List Rw := (List.range 60).map fun k => Rw.set (twoS (a + k)) (.num (k % 8))
theorem gtwo_ok {j : Nat} (h : j < 676) : NameOk (twoS j) := ⟨(by decide : 1 ≤ 2), (by decide : 2 ≤ 8), fun c hc => by
  have hc' : c ∈ [97 + j / 26, 97 + j % 26] := hc
  simp only [List.mem_cons, List.not_mem_nil, or_false] at hc'
  omega⟩
theorem gr_pf {a : Nat} (h : a < 600) : PfOk 3 ((List.range 60).map fun k => twoS (a + k)) [] (grx a) ∧ wrongO [] (grx a) = none ∧ Rw.ctl (grx a) = 60 := by
  have ct : ∀ l : List Nat, Rw.ctl (l.map fun k => Rw.set (twoS (a + k)) (.num (k % 8))) = l.length := by
    intro l
    induction l with
    | nil => rw [List.map_nil, Rw.ctl]; rfl
    | cons k l ih => rw [List.map_cons, Rw.ctl, ih, Rw.ct, List.length_cons, Nat.add_comm]
  have st : ∀ l : List Nat, Rw.stl (l.map fun k => Rw.set (twoS (a + k)) (.num (k % 8))) = l.length := by
    intro l
    induction l with
    | nil => rw [List.map_nil, Rw.stl]; rfl
    | cons k l ih => rw [List.map_cons, Rw.stl, ih, Rw.st, List.length_cons, Nat.add_comm]
  have so : ∀ (l : List Nat) (kn : List Str), Rw.Sol kn (l.map fun k => Rw.set (twoS (a + k)) (.num (k % 8))) := by
    intro l
    induction l with
    | nil => intro kn; rw [List.map_nil, Rw.Sol]; trivial
    | cons k l ih => intro kn; rw [List.map_cons, Rw.Sol, Rw.So]; exact ⟨nofun, ih _⟩
  have c60 : Rw.ctl (grx a) = 60 := by rw [grx, ct, List.length_range]
  have vd : Rw.Vdl 3 ((List.range 60).map fun k => twoS (a + k)) 6 (grx a) := by
    have : ∀ l : List Nat, (∀ k ∈ l, k < 60) → Rw.Vdl 3 ((List.range 60).map fun k => twoS (a + k)) 6 (l.map fun k => Rw.set (twoS (a + k)) (.num (k % 8))) := by
      intro l
      induction l with
      | nil => intro _; rw [List.map_nil, Rw.Vdl]; trivial
      | cons k l ih =>
        intro hl
        rw [List.map_cons, Rw.Vdl, Rw.Vd]
        refine ⟨⟨List.mem_map.mpr ⟨k, List.mem_range.mpr (hl k List.mem_cons_self), rfl⟩, ⟨trivial, ?_, nofun, nofun⟩⟩, ih fun j hj => hl j (List.mem_cons_of_mem _ hj)⟩
        show k % 8 < 2 ^ 3
        omega
    exact this _ fun k hk => List.mem_range.mp hk
  have tr : Rw.trl (grx a) ≤ 3 := by
    have : ∀ l : List Nat, Rw.trl (l.map fun k => Rw.set (twoS (a + k)) (.num (k % 8))) = 0 := by
      intro l
      induction l with
      | nil => rw [List.map_nil, Rw.trl]
      | cons k l ih => rw [List.map_cons, Rw.trl, ih, Rw.tr]; rfl
    rw [grx, this]; decide
  refine ⟨⟨by decide, by decide, fun s hs => ?_, nofun, by decide, vd, tr, by omega⟩, wrong_none List.nodup_nil (so _ _) (by rw [grx, st, List.length_range]; decide), c60⟩
  obtain ⟨k, hk, rfl⟩ := List.mem_map.mp hs
  have := List.mem_range.mp hk
  exact gtwo_ok (by omega)
def spGreatP : DSp := fun rs M Q _ => ∃ (a : Addr) (n : Nat), rs = [.o a] ∧ M a = some (.dr n) ∧ n < 2 ^ 40 ∧ ∀ (j : Nat) M', j < 600 → Sub (updM M a (.dr (n + 1))) M' → Q (progR 3 [] (grx j)) M'
theorem ok__law_great (T : Txt w K mg) : DFn P w K mg base 3 (He.ga K "_law_great") T.d__law_great ["draw"] (spGreatP) := by
  refine dfn_of T.F__law_great sc__law_great (fun cdv A outer s H E hr tk hp => ⟨_, (dss_cons (ds_set 1 sc__law_great.nd de_str)
    (dss_cons (ds_set 2 sc__law_great.nd (de_call (ok__law_next T) (hr.mono (by decide)) T.g__law_next T.F__law_next.kp (b__law_next T) tk (da_cons (de_var 0) (da_cons de_int da_nil))))
    (dss_cons (ds_setLc (i := 3) (own := [("k", 4)]) rfl sc__law_great.nd (di_range1 T.n_range de_int) (blkOk_by (by show blkC ["draw", "letters", "at", "words", "k", "word"] (defScope s__law_great) _ _ = true; decide +kernel)) (simc1 (by decide)) (fun _ _ _ _ _ => (pg_name (i := 4) sc__law_great.nd rfl (Or.inl rfl))) (fun _ _ _ _ _ => dts_nil) (fun _ _ _ _ _ => (de_op op_addU sim_add (de_ix (de_var 1) (de_op op_mod sim_IC (de_op op_fdivW sim_IC (de_op op_addU sim_add (de_var 2) (de_var 4)) de_int) de_int)) (de_ix (de_var 1) (de_op op_mod sim_IC (de_op op_addU sim_add (de_var 2) (de_var 4)) de_int)))))
    (dss_cons (ds_ret (de_tup (da_cons de_int (da_cons (de_tup da_nil) (da_cons (de_callTy call_tupU sc_tup T.n_tuple (da_cons (de_lc (own := [("k", 4), ("word", 5)]) rfl sc__law_great.nd (di_enum T.n_enumerate (de_var 3)) (blkOk_by (by show blkC ["draw", "letters", "at", "words", "k", "word"] (defScope s__law_great) _ _ = true; decide +kernel)) (simc2 (by decide) (by decide)) (fun _ _ _ _ _ => (pg_tup rfl (pgs_cons (pg_name (i := 4) sc__law_great.nd rfl (Or.inl rfl)) (pgs_cons (pg_name (i := 5) sc__law_great.nd rfl (Or.inl rfl)) pgs_nil)))) (fun _ _ _ _ _ => dts_nil) (fun _ _ _ _ _ => (de_tup (da_cons de_str (da_cons (de_var 5) (da_cons (de_tup (da_cons de_str (da_cons (de_op op_mod sim_IC (de_var 4) de_int) da_nil))) da_nil)))))) da_nil)) da_nil)))))
    dss_nil)))), fun rs M Q xw h hl => ?_⟩)
  obtain ⟨a, n, rfl, hA, hn, hQ⟩ := h
  have sl : sizeLine = 16777216 := by decide
  refine ⟨a, 600, n, rfl, hA, by omega, divOk (by decide) (by decide), fun j j0 j1 => ?_⟩
  obtain ⟨j, rfl⟩ := Int.eq_ofNat_of_zero_le j0
  refine ⟨⟨by decide, by decide⟩, (by rw [intsFrom_len]; decide), fun i acc M1 => acc = ((List.range i).map fun k => twoS (j + k)).map R.str ∧ M1 = updM M a (.dr (n + 1)), ⟨rfl, rfl⟩, ?_, ?_⟩
  · rintro i r acc M1 hr - ⟨rfl, rfl⟩
    obtain ⟨hi, rfl⟩ := intsFrom_get hr
    have hi' : i < 60 := hi
    have l1 : atI lettersS.cps.toList (((j : Int) + (0 + (i : Int))) / 26 % 26) = some (97 + (j + i) / 26) := by
      rw [letter_at (by omega) (by omega)]
      congr 1
      omega
    have l2 : atI lettersS.cps.toList (((j : Int) + (0 + (i : Int))) % 26) = some (97 + (j + i) % 26) := by
      rw [letter_at (by omega) (by omega)]
      congr 1
      omega
    refine ⟨fun _ => ⟨(divOk (by decide) (by omega) : CDivW _ 26), (show (0 : Int) < 26 by decide), by decide, _, l1, (show (0 : Int) < 26 by decide), by decide, _, l2, by show 1 + 1 ≤ sizeLine; decide, ?_, rfl⟩, tn⟩
    rw [List.range_succ, List.map_append, List.map_append]
    rfl
  · rintro acc M1 - ⟨rfl, rfl⟩
    rw [intsFrom_len]
    have l60 : (enumR (((List.range (Int.toNat 60)).map fun k => twoS (j + k)).map R.str)).length = 60 := by simp [enumR]
    refine ⟨by rw [l60, sl]; decide, fun i acc M1 => acc = (List.range i).map (fun k => (Rw.set (twoS (j + k)) (.num (k % 8))).r) ∧ M1 = updM M a (.dr (n + 1)), ⟨rfl, rfl⟩, ?_, ?_⟩
    · rintro i r acc M1 hr - ⟨rfl, rfl⟩
      obtain ⟨q, hq, rfl⟩ := enumR_get hr
      rw [List.getElem?_map, List.getElem?_map] at hq
      obtain ⟨s, hs, rfl⟩ := Option.map_eq_some_iff.mp hq
      obtain ⟨k, hk, rfl⟩ := Option.map_eq_some_iff.mp hs
      obtain ⟨hk1, hk2⟩ := List.getElem?_eq_some_iff.mp hk
      rw [List.getElem_range] at hk2
      subst hk2
      refine ⟨rfl, fun _ => ⟨(show (0 : Int) < 8 by decide), ?_, rfl⟩, tn⟩
      rw [List.range_succ, List.map_append]
      show _ = _ ++ [(Rw.set (twoS (j + i)) (.num (i % 8))).r]
      rw [Rw.r]
      rfl
    · rintro acc M1 - ⟨rfl, rfl⟩
      rw [l60]
      have er : R.tup [.int 3, .tup [], .tup ((List.range 60).map fun k => (Rw.set (twoS (j + k)) (.num (k % 8))).r)] = progR 3 [] (grx j) := by
        rw [progR, grx, rl_map, List.map_map]
        rfl
      refine ⟨_, rfl, _, Sub.rfl', ?_⟩
      rw [er]
      exact hQ j _ (by omega) Sub.rfl'
end
section
variable {P : Program} {w : World} {K : PySem.W.Frag} {mg : Str → Option Value} {base : Heap}
def spSaidD (K : PySem.W.Frag) : DSp := fun rs M Q xw => ∃ (e : Nat) (r q : R) (k : Nat), rs = [.int (e : Int), r, q] ∧ e ≤ 2 ∧ Dt k q ∧ Dt 31 r ∧ r.cnt ≤ 10000 ∧ ((isProgR r = false ∧ ∀ M', Sub M M' → Q (.lst [.str "program"]) M') ∨
  ∃ (w : Nat) (names ns : List Str) (xs : List Rw), r = progR w ns xs ∧ PfOk w names ns xs ∧ (wrongO ns xs = none → (e ≤ 1 → ∀ M', Sub M M' → Q (.lst []) M') ∧ (isWholeR q 0 ((Rw.ctl xs : Nat) - 1 : Int) = true → ∀ M', Sub M M' → Q (.lst []) M') ∧
    (e = 2 → isWholeR q 0 ((Rw.ctl xs : Nat) - 1 : Int) = false → ∀ M', Sub M M' → Q (.lst [.str "place"]) M') ∧ ∀ k : Nat, k < Rw.ctl xs → (Rw.nal xs ns k).length ≤ 63) ∧ (∀ pl t, wrongO ns xs = some (pl, t) → ∀ M', Sub M M' → Q (.lst [.str "unsound"]) M'))
theorem ok__law_said (T : Txt w K mg) : DFn P w K mg base 34 (He.ga K "_law_said") T.d__law_said ["deed", "program", "place"] ((spSaidD K)) := by
  refine dfn_of T.F__law_said sc__law_said (fun cdv A outer s H E hr tk hp => ⟨_, (dss_cons (ds_set 3 sc__law_said.nd de_non)
    (dss_cons (ds_try 4 rfl rfl sc__law_said.nd T.g_BitError (fun W2 pn2 xe2 tk hp => (dss_cons (ds_if (dt_cmp (op_eqU hr.hu) sim_eq (de_var 0) de_int) (dss_cons (ds_expr (de_call (okx_places_of T) (hr.mono (by omega)) T.g_places_of T.F_places_of.kp (b_places_of T) tk (da_cons (de_var 1) da_nil)))
    dss_nil) (dss_cons (ds_if (dt_cmp (op_eqU hr.hu) sim_eq (de_var 0) de_int) (dss_cons (ds_expr (de_call (okx_set_places T) (hr.mono (by omega)) T.g_set_places T.F_set_places.kp (b_set_places T) tk (da_cons (de_var 1) da_nil)))
    dss_nil) (dss_cons (ds_expr (de_call (ok_names_at T) (hr.mono (by decide)) T.g_names_at T.F_names_at.kp (b_names_at T) tk (da_cons (de_var 1) (da_cons (de_var 2) da_nil))))
    dss_nil))
    dss_nil))
    dss_nil)) (fun a2 pn2 => (dss_cons (ds_set 3 sc__law_said.nd (de_var 4))
    dss_nil)))
    (dss_cons (ds_set 5 sc__law_said.nd (de_lst (da_cons (de_tup (da_cons de_str (da_cons (de_callB call_isX (sc_isX (K := K)) T.n_isinstance (da_cons (de_var 3) (da_cons (de_gref T.g_BadProgram) da_nil))) da_nil))) (da_cons (de_tup (da_cons de_str (da_cons (de_callB call_isX (sc_isX (K := K)) T.n_isinstance (da_cons (de_var 3) (da_cons (de_gref T.g_Unsound) da_nil))) da_nil))) da_nil))))
    (dss_cons (ds_ret (de_lc (own := [("word", 6), ("is_so", 7)]) rfl sc__law_said.nd (di_list (de_op op_addU sim_add (de_var 5) (de_lst (da_cons (de_tup (da_cons de_str (da_cons (de_callB call_isX (sc_isX (K := K)) T.n_isinstance (da_cons (de_var 3) (da_cons (de_gref T.g_BadPlace) da_nil))) da_nil))) da_nil)))) (blkOk_by (by show blkC ["deed", "program", "place", "e", "error", "found", "word", "is_so"] (defScope s__law_said) _ _ = true; decide +kernel)) (simc2 (by decide) (by decide)) (fun _ _ _ _ _ => (pg_tup rfl (pgs_cons (pg_name (i := 6) sc__law_said.nd rfl (Or.inl rfl)) (pgs_cons (pg_name (i := 7) sc__law_said.nd rfl (Or.inl rfl)) pgs_nil)))) (fun _ _ _ _ _ => (dts_one (dt_val (de_var 7)))) (fun _ _ _ _ _ => (de_var 6))))
    dss_nil)))), fun rs M Q xw h hl => ?_⟩)
  obtain ⟨e, r, q, k, rfl, he, hq, hr, hc, h⟩ := h
  have sl : sizeLine = 16777216 := by decide
  match e, he with
  | 0, _ =>
    refine ⟨fun _ => ⟨r, rfl, hr, hc, ?_⟩, noF rfl⟩
    rcases h with ⟨h1, h2⟩ | ⟨w, names, ns, xs, er, p, h1, h2⟩
    · refine .inl ⟨h1, fun M1 s1 => ?_⟩
      have C := T.x_.c "BadProgram" (by decide)
      refine ⟨(T.x_.m "BadProgram" (by decide) "BitError" (by decide)).trans (by decide +kernel), ?_⟩
      refine ⟨_, _, rfl, C, T.x_.k "BadProgram" (by decide) "BadProgram" (by decide), ?_⟩
      refine ⟨_, _, rfl, C, T.x_.k "BadProgram" (by decide) "Unsound" (by decide), ?_⟩
      refine ⟨_, _, rfl, C, T.x_.k "BadProgram" (by decide) "BadPlace" (by decide), ?_⟩
      refine ⟨_, _, rfl, rfl, (show (3 : Nat) ≤ 16777216 by decide), ?_⟩
      refine ⟨(show (3 : Nat) < 16777216 by decide), fun i acc M2 => M2 = M1 ∧ acc = (match i with | 0 => [] | _ => [R.str "program"]), ⟨rfl, rfl⟩, ?_, ?_⟩
      · rintro i r acc M2 hr - ⟨rfl, rfl⟩
        match i, hr with
        | 0, hr => cases hr; exact ⟨rfl, fun _ => ⟨rfl, rfl⟩, noF (by decide +kernel)⟩
        | 1, hr => cases hr; exact ⟨rfl, noT (by decide +kernel), fun _ => ⟨rfl, rfl⟩⟩
        | 2, hr => cases hr; exact ⟨rfl, noT (by decide +kernel), fun _ => ⟨rfl, rfl⟩⟩
        | i + 3, hr => cases hr
      · rintro acc M2 - ⟨rfl, rfl⟩
        exact ⟨_, Sub.rfl', h2 _ s1⟩
    · refine .inr ⟨w, names, ns, xs, er, p, fun z M1 s1 => ?_, fun pl t z M1 s1 => ?_⟩
      · have h3 := (h1 z).1 (by decide)
        refine ⟨_, T.x_.n "BadProgram" (by decide), ?_⟩
        refine ⟨_, T.x_.n "Unsound" (by decide), ?_⟩
        refine ⟨_, T.x_.n "BadPlace" (by decide), ?_⟩
        refine ⟨_, _, rfl, rfl, (show (3 : Nat) ≤ 16777216 by decide), ?_⟩
        refine ⟨(show (3 : Nat) < 16777216 by decide), fun i acc M2 => M2 = M1 ∧ acc = [], ⟨rfl, rfl⟩, ?_, ?_⟩
        · rintro i r acc M2 hr - ⟨rfl, rfl⟩
          match i, hr with
          | 0, hr => cases hr; exact ⟨rfl, noT (by decide +kernel), fun _ => ⟨rfl, rfl⟩⟩
          | 1, hr => cases hr; exact ⟨rfl, noT (by decide +kernel), fun _ => ⟨rfl, rfl⟩⟩
          | 2, hr => cases hr; exact ⟨rfl, noT (by decide +kernel), fun _ => ⟨rfl, rfl⟩⟩
          | i + 3, hr => cases hr
        · rintro acc M2 - ⟨rfl, rfl⟩
          exact ⟨_, Sub.rfl', h3 _ s1⟩
      · have h3 := h2 pl t z
        have C := T.x_.c "Unsound" (by decide)
        refine ⟨(T.x_.m "Unsound" (by decide) "BitError" (by decide)).trans (by decide +kernel), ?_⟩
        refine ⟨_, _, rfl, C, T.x_.k "Unsound" (by decide) "BadProgram" (by decide), ?_⟩
        refine ⟨_, _, rfl, C, T.x_.k "Unsound" (by decide) "Unsound" (by decide), ?_⟩
        refine ⟨_, _, rfl, C, T.x_.k "Unsound" (by decide) "BadPlace" (by decide), ?_⟩
        refine ⟨_, _, rfl, rfl, (show (3 : Nat) ≤ 16777216 by decide), ?_⟩
        refine ⟨(show (3 : Nat) < 16777216 by decide), fun i acc M2 => M2 = M1 ∧ acc = (match i with | 0 => [] | 1 => [] | _ => [R.str "unsound"]), ⟨rfl, rfl⟩, ?_, ?_⟩
        · rintro i r acc M2 hr - ⟨rfl, rfl⟩
          match i, hr with
          | 0, hr => cases hr; exact ⟨rfl, noT (by decide +kernel), fun _ => ⟨rfl, rfl⟩⟩
          | 1, hr => cases hr; exact ⟨rfl, fun _ => ⟨rfl, rfl⟩, noF (by decide +kernel)⟩
          | 2, hr => cases hr; exact ⟨rfl, noT (by decide +kernel), fun _ => ⟨rfl, rfl⟩⟩
          | i + 3, hr => cases hr
        · rintro acc M2 - ⟨rfl, rfl⟩
          exact ⟨_, Sub.rfl', h3 _ s1⟩
  | 1, _ =>
    refine ⟨noT rfl, fun _ => ⟨fun _ => ⟨r, rfl, hr, hc, ?_⟩, noF rfl⟩⟩
    rcases h with ⟨h1, h2⟩ | ⟨w, names, ns, xs, er, p, h1, h2⟩
    · refine .inl ⟨h1, fun M1 s1 => ?_⟩
      have C := T.x_.c "BadProgram" (by decide)
      refine ⟨(T.x_.m "BadProgram" (by decide) "BitError" (by decide)).trans (by decide +kernel), ?_⟩
      refine ⟨_, _, rfl, C, T.x_.k "BadProgram" (by decide) "BadProgram" (by decide), ?_⟩
      refine ⟨_, _, rfl, C, T.x_.k "BadProgram" (by decide) "Unsound" (by decide), ?_⟩
      refine ⟨_, _, rfl, C, T.x_.k "BadProgram" (by decide) "BadPlace" (by decide), ?_⟩
      refine ⟨_, _, rfl, rfl, (show (3 : Nat) ≤ 16777216 by decide), ?_⟩
      refine ⟨(show (3 : Nat) < 16777216 by decide), fun i acc M2 => M2 = M1 ∧ acc = (match i with | 0 => [] | _ => [R.str "program"]), ⟨rfl, rfl⟩, ?_, ?_⟩
      · rintro i r acc M2 hr - ⟨rfl, rfl⟩
        match i, hr with
        | 0, hr => cases hr; exact ⟨rfl, fun _ => ⟨rfl, rfl⟩, noF (by decide +kernel)⟩
        | 1, hr => cases hr; exact ⟨rfl, noT (by decide +kernel), fun _ => ⟨rfl, rfl⟩⟩
        | 2, hr => cases hr; exact ⟨rfl, noT (by decide +kernel), fun _ => ⟨rfl, rfl⟩⟩
        | i + 3, hr => cases hr
      · rintro acc M2 - ⟨rfl, rfl⟩
        exact ⟨_, Sub.rfl', h2 _ s1⟩
    · refine .inr ⟨w, names, ns, xs, er, p, fun z M1 s1 => ?_, fun pl t z M1 s1 => ?_⟩
      · have h3 := (h1 z).1 (by decide)
        refine ⟨_, T.x_.n "BadProgram" (by decide), ?_⟩
        refine ⟨_, T.x_.n "Unsound" (by decide), ?_⟩
        refine ⟨_, T.x_.n "BadPlace" (by decide), ?_⟩
        refine ⟨_, _, rfl, rfl, (show (3 : Nat) ≤ 16777216 by decide), ?_⟩
        refine ⟨(show (3 : Nat) < 16777216 by decide), fun i acc M2 => M2 = M1 ∧ acc = [], ⟨rfl, rfl⟩, ?_, ?_⟩
        · rintro i r acc M2 hr - ⟨rfl, rfl⟩
          match i, hr with
          | 0, hr => cases hr; exact ⟨rfl, noT (by decide +kernel), fun _ => ⟨rfl, rfl⟩⟩
          | 1, hr => cases hr; exact ⟨rfl, noT (by decide +kernel), fun _ => ⟨rfl, rfl⟩⟩
          | 2, hr => cases hr; exact ⟨rfl, noT (by decide +kernel), fun _ => ⟨rfl, rfl⟩⟩
          | i + 3, hr => cases hr
        · rintro acc M2 - ⟨rfl, rfl⟩
          exact ⟨_, Sub.rfl', h3 _ s1⟩
      · have h3 := h2 pl t z
        have C := T.x_.c "Unsound" (by decide)
        refine ⟨(T.x_.m "Unsound" (by decide) "BitError" (by decide)).trans (by decide +kernel), ?_⟩
        refine ⟨_, _, rfl, C, T.x_.k "Unsound" (by decide) "BadProgram" (by decide), ?_⟩
        refine ⟨_, _, rfl, C, T.x_.k "Unsound" (by decide) "Unsound" (by decide), ?_⟩
        refine ⟨_, _, rfl, C, T.x_.k "Unsound" (by decide) "BadPlace" (by decide), ?_⟩
        refine ⟨_, _, rfl, rfl, (show (3 : Nat) ≤ 16777216 by decide), ?_⟩
        refine ⟨(show (3 : Nat) < 16777216 by decide), fun i acc M2 => M2 = M1 ∧ acc = (match i with | 0 => [] | 1 => [] | _ => [R.str "unsound"]), ⟨rfl, rfl⟩, ?_, ?_⟩
        · rintro i r acc M2 hr - ⟨rfl, rfl⟩
          match i, hr with
          | 0, hr => cases hr; exact ⟨rfl, noT (by decide +kernel), fun _ => ⟨rfl, rfl⟩⟩
          | 1, hr => cases hr; exact ⟨rfl, fun _ => ⟨rfl, rfl⟩, noF (by decide +kernel)⟩
          | 2, hr => cases hr; exact ⟨rfl, noT (by decide +kernel), fun _ => ⟨rfl, rfl⟩⟩
          | i + 3, hr => cases hr
        · rintro acc M2 - ⟨rfl, rfl⟩
          exact ⟨_, Sub.rfl', h3 _ s1⟩
  | 2, _ =>
    refine ⟨noT rfl, fun _ => ⟨noT rfl, fun _ => ⟨r, q, k, rfl, hq, hr, hc, ?_⟩⟩⟩
    rcases h with ⟨h1, h2⟩ | ⟨w, names, ns, xs, er, p, h1, h2⟩
    · refine .inl ⟨h1, fun M1 s1 => ?_⟩
      have C := T.x_.c "BadProgram" (by decide)
      refine ⟨(T.x_.m "BadProgram" (by decide) "BitError" (by decide)).trans (by decide +kernel), ?_⟩
      refine ⟨_, _, rfl, C, T.x_.k "BadProgram" (by decide) "BadProgram" (by decide), ?_⟩
      refine ⟨_, _, rfl, C, T.x_.k "BadProgram" (by decide) "Unsound" (by decide), ?_⟩
      refine ⟨_, _, rfl, C, T.x_.k "BadProgram" (by decide) "BadPlace" (by decide), ?_⟩
      refine ⟨_, _, rfl, rfl, (show (3 : Nat) ≤ 16777216 by decide), ?_⟩
      refine ⟨(show (3 : Nat) < 16777216 by decide), fun i acc M2 => M2 = M1 ∧ acc = (match i with | 0 => [] | _ => [R.str "program"]), ⟨rfl, rfl⟩, ?_, ?_⟩
      · rintro i r acc M2 hr - ⟨rfl, rfl⟩
        match i, hr with
        | 0, hr => cases hr; exact ⟨rfl, fun _ => ⟨rfl, rfl⟩, noF (by decide +kernel)⟩
        | 1, hr => cases hr; exact ⟨rfl, noT (by decide +kernel), fun _ => ⟨rfl, rfl⟩⟩
        | 2, hr => cases hr; exact ⟨rfl, noT (by decide +kernel), fun _ => ⟨rfl, rfl⟩⟩
        | i + 3, hr => cases hr
      · rintro acc M2 - ⟨rfl, rfl⟩
        exact ⟨_, Sub.rfl', h2 _ s1⟩
    · refine .inr ⟨w, names, ns, xs, er, p, fun z => ⟨fun pl e hk => ⟨?_, fun M1 ys s1 pm so => ?_⟩, fun e M1 s1 => ?_⟩, fun pl t z M1 s1 => ?_⟩
      · exact (h1 z).2.2.2 pl hk
      · have h3 := (h1 z).2.1 (by rw [e]; exact wholeY (by omega) (by omega))
        refine ⟨_, T.x_.n "BadProgram" (by decide), ?_⟩
        refine ⟨_, T.x_.n "Unsound" (by decide), ?_⟩
        refine ⟨_, T.x_.n "BadPlace" (by decide), ?_⟩
        refine ⟨_, _, rfl, rfl, (show (3 : Nat) ≤ 16777216 by decide), ?_⟩
        refine ⟨(show (3 : Nat) < 16777216 by decide), fun i acc M2 => M2 = M1 ∧ acc = [], ⟨rfl, rfl⟩, ?_, ?_⟩
        · rintro i r acc M2 hr - ⟨rfl, rfl⟩
          match i, hr with
          | 0, hr => cases hr; exact ⟨rfl, noT (by decide +kernel), fun _ => ⟨rfl, rfl⟩⟩
          | 1, hr => cases hr; exact ⟨rfl, noT (by decide +kernel), fun _ => ⟨rfl, rfl⟩⟩
          | 2, hr => cases hr; exact ⟨rfl, noT (by decide +kernel), fun _ => ⟨rfl, rfl⟩⟩
          | i + 3, hr => cases hr
        · rintro acc M2 - ⟨rfl, rfl⟩
          exact ⟨_, Sub.rfl', h3 _ s1⟩
      · have h3 := (h1 z).2.2.1 rfl e
        have C := T.x_.c "BadPlace" (by decide)
        refine ⟨(T.x_.m "BadPlace" (by decide) "BitError" (by decide)).trans (by decide +kernel), ?_⟩
        refine ⟨_, _, rfl, C, T.x_.k "BadPlace" (by decide) "BadProgram" (by decide), ?_⟩
        refine ⟨_, _, rfl, C, T.x_.k "BadPlace" (by decide) "Unsound" (by decide), ?_⟩
        refine ⟨_, _, rfl, C, T.x_.k "BadPlace" (by decide) "BadPlace" (by decide), ?_⟩
        refine ⟨_, _, rfl, rfl, (show (3 : Nat) ≤ 16777216 by decide), ?_⟩
        refine ⟨(show (3 : Nat) < 16777216 by decide), fun i acc M2 => M2 = M1 ∧ acc = (match i with | 0 => [] | 1 => [] | 2 => [] | _ => [R.str "place"]), ⟨rfl, rfl⟩, ?_, ?_⟩
        · rintro i r acc M2 hr - ⟨rfl, rfl⟩
          match i, hr with
          | 0, hr => cases hr; exact ⟨rfl, noT (by decide +kernel), fun _ => ⟨rfl, rfl⟩⟩
          | 1, hr => cases hr; exact ⟨rfl, noT (by decide +kernel), fun _ => ⟨rfl, rfl⟩⟩
          | 2, hr => cases hr; exact ⟨rfl, fun _ => ⟨rfl, rfl⟩, noF (by decide +kernel)⟩
          | i + 3, hr => cases hr
        · rintro acc M2 - ⟨rfl, rfl⟩
          exact ⟨_, Sub.rfl', h3 _ s1⟩
      · have h3 := h2 pl t z
        have C := T.x_.c "Unsound" (by decide)
        refine ⟨(T.x_.m "Unsound" (by decide) "BitError" (by decide)).trans (by decide +kernel), ?_⟩
        refine ⟨_, _, rfl, C, T.x_.k "Unsound" (by decide) "BadProgram" (by decide), ?_⟩
        refine ⟨_, _, rfl, C, T.x_.k "Unsound" (by decide) "Unsound" (by decide), ?_⟩
        refine ⟨_, _, rfl, C, T.x_.k "Unsound" (by decide) "BadPlace" (by decide), ?_⟩
        refine ⟨_, _, rfl, rfl, (show (3 : Nat) ≤ 16777216 by decide), ?_⟩
        refine ⟨(show (3 : Nat) < 16777216 by decide), fun i acc M2 => M2 = M1 ∧ acc = (match i with | 0 => [] | 1 => [] | _ => [R.str "unsound"]), ⟨rfl, rfl⟩, ?_, ?_⟩
        · rintro i r acc M2 hr - ⟨rfl, rfl⟩
          match i, hr with
          | 0, hr => cases hr; exact ⟨rfl, noT (by decide +kernel), fun _ => ⟨rfl, rfl⟩⟩
          | 1, hr => cases hr; exact ⟨rfl, fun _ => ⟨rfl, rfl⟩, noF (by decide +kernel)⟩
          | 2, hr => cases hr; exact ⟨rfl, noT (by decide +kernel), fun _ => ⟨rfl, rfl⟩⟩
          | i + 3, hr => cases hr
        · rintro acc M2 - ⟨rfl, rfl⟩
          exact ⟨_, Sub.rfl', h3 _ s1⟩
end
section
variable {P : Program} {w : World} {K : PySem.W.Frag} {mg : Str → Option Value} {base : Heap}
theorem drNew (ns : List Int) (h : ns.length ≤ 90) : DrOk 0 (ns ++ [0]) 0 0 0 := ⟨by rw [List.length_append]; exact ⟨by simp, by simp; omega⟩, by omega, by omega⟩
def spBegin0 : DSp := fun rs M Q _ => ∃ ns : List Int, rs = [.scr ns] ∧ ns.length ≤ 90 ∧ ∀ a, M a = none → Q (.o a) (updM M a (.dK (drKvs (ns ++ [0]) 0 0 0)))
theorem ok0__law_begin (T : Txt w K mg) : DFn P w K mg base 1 (He.ga K "_law_begin") T.d__law_begin ["script"] (spBegin0) := by
  refine dfn_of T.F__law_begin sc__law_begin (fun cdv A outer s H E hr tk hp => ⟨_, (dss_cons (ds_ret (de_disp (dps_cons de_str (de_op op_addU sim_add (de_var 0) (de_lst (da_cons de_int da_nil))) (dps_cons de_str de_int (dps_cons de_str de_int (dps_cons de_str de_int dps_nil))))))
    dss_nil), fun rs M Q xw h hl => ?_⟩)
  obtain ⟨ns, rfl, h0, hQ⟩ := h
  have sl : 91 ≤ sizeLine := by decide
  refine ⟨ns.map R.int, [R.int 0], rfl, rfl, by rw [List.length_map]; exact Nat.le_trans (Nat.add_le_add_right h0 1) sl, fun a ha => ⟨_, Sub.rfl', ?_⟩⟩
  have q := hQ a ha
  unfold drKvs at q
  rw [List.map_append] at q
  exact q
theorem ok__law_begin (T : Txt w K mg) : DFn P w K mg base 1 (He.ga K "_law_begin") T.d__law_begin ["script"] (spBegin) := (ok0__law_begin T).closedS.imp fun rs M Q _ h => by
  obtain ⟨ns, rfl, h0, hQ⟩ := h
  refine ⟨ns, rfl, h0, fun a ha => ⟨a, 0, ns ++ [0], 0, 0, 0, rfl, drNew ns h0, updM_same, ?_⟩⟩
  rw [updM_updM]
  exact hQ a ha
end
section
variable {P : Program} {w : World} {K : PySem.W.Frag} {mg : Str → Option Value} {base : Heap}
def spFewer (d : Nat) : DSp := fun rs M Q _ => ∃ (w : Nat) (ns : List Str) (xs : List Rw), rs = [.tup (Rw.rl xs)] ∧ 1 ≤ d ∧ Rw.Vdl w ns d xs ∧ xs.length < 1000 ∧ (∀ x ∈ xs, x.ct < 1000) ∧ ∀ M', Sub M M' → Q (.tup (Rw.rl (Rw.fewl xs))) M'
theorem spFewer_void : ∀ rs M Q xw, ¬ spFewer 0 rs M Q xw := fun _ _ _ _ ⟨_, _, _, _, h, _⟩ => by omega
theorem len_ctl : ∀ xs : List Rw, xs.length ≤ Rw.ctl xs
  | [] => Nat.zero_le _
  | x :: xs => by
    have h1 : 1 ≤ x.ct := by cases x <;> rw [Rw.ct] <;> omega
    have h2 := len_ctl xs
    rw [Rw.ctl, List.length_cons]; omega
theorem ct_mem : ∀ {xs : List Rw} {x : Rw}, x ∈ xs → x.ct ≤ Rw.ctl xs
  | y :: ys, x, h => by
    rw [Rw.ctl]
    rcases List.mem_cons.mp h with rfl | h
    · omega
    · have := ct_mem h; omega
theorem fewl_take {xs : List Rw} {i : Nat} {x : Rw} (h : xs[i]? = some x) : Rw.rl (Rw.fewl (xs.take (i + 1))) = Rw.rl (Rw.fewl (xs.take i)) ++ [x.few.r] := by
  rw [rl_map, rl_map, fewl_map, fewl_map, List.take_succ, h, List.map_append, List.map_append]; rfl
theorem fewl_len (xs : List Rw) : (Rw.rl (Rw.fewl xs)).length = xs.length := by rw [rl_map, fewl_map, List.length_map, List.length_map]
theorem ok__law_fewer (T : Txt w K mg) : ∀ d : Nat, DFn P w K mg base (d + 1) (He.ga K "_law_fewer") T.d__law_fewer ["rows"] (spFewer d)
 | 0 => dfn_void T.F__law_fewer sc__law_fewer spFewer_void
 | d + 1 => by
  refine dfn_of T.F__law_fewer sc__law_fewer (fun cdv A outer s H E hr tk hp => ⟨_, (dss_cons (ds_set 1 sc__law_fewer.nd (de_lstO da_nil))
    (dss_cons (ds_for hp rfl (di_tup (de_var 0)) (dg_name 2 sc__law_fewer.nd) (dss_cons (ds_if (dt_cmp (op_eqU hr.hu) sim_eq (de_ix (de_var 2) de_int) de_str) (dss_cons (ds_set 2 sc__law_fewer.nd (de_tup (da_cons de_str (da_cons (de_callB (call_mn rfl) sc_mn T.n_min (da_cons de_int (da_cons (de_ix (de_var 2) de_int) da_nil))) (da_cons (de_call (ok__law_fewer T d) (hr.mono (by omega)) T.g__law_fewer T.F__law_fewer.kp (b__law_fewer T) tk (da_cons (de_ix (de_var 2) de_int) da_nil)) da_nil)))))
    dss_nil) dss_nil)
    (dss_cons (ds_if (dt_cmp (op_eqU hr.hu) sim_eq (de_ix (de_var 2) de_int) de_str) (dss_cons (ds_set 2 sc__law_fewer.nd (de_op op_addU sim_add (de_slice (de_var 2) do_none (do_some de_int)) (de_tup (da_cons (de_call (ok__law_fewer T d) (hr.mono (by omega)) T.g__law_fewer T.F__law_fewer.kp (b__law_fewer T) tk (da_cons (de_ix (de_var 2) de_int) da_nil)) (da_cons (de_call (ok__law_fewer T d) (hr.mono (by omega)) T.g__law_fewer T.F__law_fewer.kp (b__law_fewer T) tk (da_cons (de_ix (de_var 2) de_int) da_nil)) da_nil)))))
    dss_nil) dss_nil)
    (dss_cons (ds_expr (de_append (de_var 1) (da_cons (de_var 2) da_nil)))
    dss_nil))))
    (dss_cons (ds_ret (de_callTy call_tupU sc_tup T.n_tuple (da_cons (de_var 1) da_nil)))
    dss_nil))), fun rs M Q xw h hl => ?_⟩)
  obtain ⟨w, ns, xs, rfl, d1, hv, hlx, hct, hQ⟩ := h
  have sl : sizeLine = 16777216 := by decide
  intro f hf
  have hfM : M f = none := hf
  refine ⟨fun i g' M' => ∃ (s2 : Option R), g' = [some (.tup (Rw.rl xs)), some (.o f), s2] ∧ Sub M M' ∧ M' f = some (.lst (Rw.rl (Rw.fewl (xs.take i)))), ⟨_, rfl, Sub.new Sub.rfl' hfM, by rw [updM_same, List.take_zero, Rw.fewl, Rw.rl]⟩, ?_, ?_⟩
  · rintro i r g' M' hr ⟨s2, rfl, hs, hF⟩
    rw [rl_map, List.getElem?_map] at hr
    obtain ⟨x, hx, rfl⟩ := Option.map_eq_some_iff.mp hr
    have hm := List.mem_of_getElem? hx
    have vx := vdl_mem hv hm
    have cx := hct x hm
    have es := fewl_take hx
    have fin : ∀ (r : R) (M2 : MH) (s2 : Option R), r = x.few.r → Sub M' M2 → (∃ rs, LsOf M2 (.o f) rs) ∧ ∃ rs, M2 f = some (.lst rs) ∧ rs.length < sizeLine ∧ ∃ (t2 : Option R), [some (.tup (Rw.rl xs)), some (.o f), s2] = [some (.tup (Rw.rl xs)), some (.o f), t2] ∧ Sub M (updM M2 f (.lst (rs ++ [r]))) ∧
        updM M2 f (.lst (rs ++ [r])) f = some (.lst (Rw.rl (Rw.fewl (xs.take (i + 1))))) := fun r M2 s2 e s => by
      subst e
      have h2 := s _ _ hF
      refine ⟨⟨_, h2⟩, _, h2, ?_, _, rfl, Sub.new (fun b u q => s _ _ (hs _ _ q)) hfM, by rw [updM_same, es]⟩
      rw [fewl_len]
      have := List.length_take_le i xs
      have h3 : (xs.take i).length ≤ xs.length := List.length_take_le' ..
      omega
    cases x with
    | set a e =>
      rw [Rw.few, Rw.r] at fin
      rw [Rw.r]
      exact ⟨_, rfl, noT rowW.2.1, fun _ => ⟨_, rfl, noT rowW.1, fun _ => fin _ M' _ rfl Sub.rfl'⟩⟩
    | tell a =>
      rw [Rw.few, Rw.r] at fin
      rw [Rw.r]
      exact ⟨_, rfl, noT rowW.2.2.2.1, fun _ => ⟨_, rfl, noT rowW.2.2.1, fun _ => fin _ M' _ rfl Sub.rfl'⟩⟩
    | iff a p q =>
      rw [Rw.Vd] at vx
      rw [Rw.ct] at cx
      rw [Rw.few, Rw.r] at fin
      rw [Rw.r]
      have lp := len_ctl p
      have lq := len_ctl q
      refine ⟨_, rfl, noT rowW.2.2.2.2.1, fun _ => ⟨_, rfl, fun _ => ?_, noF (decide_eq_true rfl)⟩⟩
      refine ⟨_, rfl, w, ns, p, rfl, by omega, vx.2.2.1, by omega, fun x hx => by have := ct_mem hx; omega, fun M2 s2 => ?_⟩
      refine ⟨_, rfl, w, ns, q, rfl, by omega, vx.2.2.2, by omega, fun x hx => by have := ct_mem hx; omega, fun M3 s3 => ?_⟩
      exact ⟨lenLe (k := 2) (j := 2) rfl rfl (by decide), fin _ M3 _ rfl fun b u e => s3 _ _ (s2 _ _ e)⟩
    | rnd n p =>
      rw [Rw.Vd] at vx
      rw [Rw.ct] at cx
      rw [Rw.few, Rw.r] at fin
      rw [Rw.r]
      have lp := len_ctl p
      refine ⟨_, rfl, fun _ => ?_, noF (decide_eq_true rfl)⟩
      refine ⟨_, rfl, _, rfl, w, ns, p, rfl, by omega, vx.2.2, by omega, fun x hx => by have := ct_mem hx; omega, fun M2 s2 => ?_⟩
      refine ⟨_, rfl, noT rowW.2.2.2.2.2, fun _ => fin _ M2 _ ?_ s2⟩
      congr 3
      have : ((min 2 n : Nat) : Int) = min 2 (n : Int) := by omega
      rw [this]
  · rintro g' M' ⟨s2, rfl, hs, hF⟩
    have lr : (Rw.rl xs).length = xs.length := by rw [rl_map, List.length_map]
    rw [lr, List.take_length] at hF
    exact ⟨_, hF, _, Sub.rfl', hQ _ hs⟩
end
section
variable {P : Program} {w : World} {K : PySem.W.Frag} {mg : Str → Option Value} {base : Heap}
def spNumber : DSp := fun rs M Q _ => ∃ (a : Addr) (n w : Nat), rs = [.o a, .int (w : Int)] ∧ M a = some (.dr n) ∧ n < 2 ^ 55 ∧ 1 ≤ w ∧ w ≤ 12 ∧ ∀ v m : Nat, v < 2 ^ w → m ≤ n + 2 → Q (.int (v : Nat)) (updM M a (.dr m))
theorem ok__law_number (T : Txt w K mg) : DFn P w K mg base 3 (He.ga K "_law_number") T.d__law_number ["draw", "wide"] (spNumber) := by
  refine dfn_of T.F__law_number sc__law_number (fun cdv A outer s H E hr tk hp => ⟨_, (dss_cons (ds_par 2 3 rfl sc__law_number.nd (da_cons (de_call (ok__law_next T) (hr.mono (by decide)) T.g__law_next T.F__law_next.kp (b__law_next T) tk (da_cons (de_var 0) (da_cons de_int da_nil))) (da_cons (de_op op_shl sim_IC de_int (de_var 1)) da_nil)))
    (dss_cons (ds_if (dt_cmp (op_eqU hr.hu) sim_eq (de_var 2) de_int) (dss_cons (ds_ret (de_call (ok__law_next T) (hr.mono (by decide)) T.g__law_next T.F__law_next.kp (b__law_next T) tk (da_cons (de_var 0) (da_cons (de_var 3) da_nil))))
    dss_nil) dss_nil)
    (dss_cons (ds_set 4 sc__law_number.nd (de_call (ok__law_next T) (hr.mono (by decide)) T.g__law_next T.F__law_next.kp (b__law_next T) tk (da_cons (de_var 0) (da_cons (de_var 1) da_nil))))
    (dss_cons (ds_ret (de_ix (de_lst (da_cons de_int (da_cons (de_op op_sub sim_I0 (de_var 3) de_int) (da_cons (de_op op_shl sim_IC de_int (de_var 4)) (da_cons (de_op op_sub sim_I0 (de_op op_shl sim_IC de_int (de_var 4)) de_int) (da_cons (de_op op_sub sim_I0 (de_var 3) (de_op op_shl sim_IC de_int (de_var 4))) da_nil)))))) (de_var 2)))
    dss_nil)))), fun rs M Q xw h hl => ?_⟩)
  obtain ⟨a, n, w, rfl, hM, hn, w1, w2, hQ⟩ := h
  have w0 := Nat.two_pow_pos w
  have p12 : 2 ^ w ≤ 2 ^ 12 := Nat.pow_le_pow_right (by decide) w2
  refine ⟨a, 5, n, rfl, hM, by omega, divOk (by decide) (by decide), fun way y0 y1 => ?_⟩
  refine ⟨pow1 (by omega), fun e => ?_, fun e => ?_⟩
  · refine ⟨a, _, _, rfl, updM_same, by omega, divOk (by show 0 < (1 : Int) * 2 ^ (w : Int).toNat; rw [shl1]; omega) (by show (1 : Int) * 2 ^ (w : Int).toNat < 2 ^ 64; rw [shl1]; omega), fun v v0 v1 => ?_⟩
    rw [updM_updM]
    obtain ⟨v, rfl⟩ := Int.eq_ofNat_of_zero_le v0
    have v2 : (v : Int) < 1 * 2 ^ (w : Int).toNat := v1
    rw [shl1] at v2
    exact ⟨_, Sub.rfl', hQ v _ (by omega) (by omega)⟩
  · refine ⟨a, _, _, rfl, updM_same, by omega, divOk (by omega) (by omega), fun t t0 t1 => ?_⟩
    rw [updM_updM]
    obtain ⟨t, rfl⟩ := Int.eq_ofNat_of_zero_le t0
    have tw : t < w := by omega
    have pt : 2 ^ t < 2 ^ w := Nat.pow_lt_pow_right (by decide) tw
    have t0 := Nat.two_pow_pos t
    refine ⟨pow1 (by omega), pow1 (by omega), pow1 (by omega), ?_⟩
    obtain ⟨v, hv, hvl⟩ := pickI (rs := [R.int 0, R.int ((1 : Int) * 2 ^ (w : Int).toNat - 1), R.int ((1 : Int) * 2 ^ (t : Int).toNat), R.int ((1 : Int) * 2 ^ (t : Int).toNat - 1), R.int ((1 : Int) * 2 ^ (w : Int).toNat - (1 : Int) * 2 ^ (t : Int).toNat)]) (i := way) (m := 2 ^ w) y0 y1 (by
      intro r hr
      simp only [List.mem_cons, List.not_mem_nil, or_false] at hr
      rcases hr with rfl | rfl | rfl | rfl | rfl
      · exact ⟨0, rfl, by omega⟩
      · exact ⟨2 ^ w - 1, by rw [shlM], by omega⟩
      · exact ⟨2 ^ t, by rw [shl1], pt⟩
      · exact ⟨2 ^ t - 1, by rw [shlM], by omega⟩
      · exact ⟨2 ^ w - 2 ^ t, by rw [shl1, shl1, Int.ofNat_sub (by omega)], by omega⟩)
    exact ⟨_, _, rfl, hv, _, Sub.rfl', hQ v _ hvl (by omega)⟩
end
section
variable {P : Program} {w : World} {K : PySem.W.Frag} {mg : Str → Option Value} {base : Heap}
theorem pysStrs (xs : List Str) : R.pys (xs.map R.str) = some (xs.map PyData.str) := by
  induction xs with
  | nil => rfl
  | cons x xs ih => rw [List.map_cons, R.pys, ih]; rfl
theorem pyStrs (xs : List Str) : (R.lst (xs.map R.str)).py = some (.list (xs.map PyData.str)) := by rw [R.py, pysStrs]; rfl
theorem name_strOk {s : Str} (h : NameOk s) : PyData.strOk s = true := by
  unfold PyData.strOk
  rw [Array.all_eq_true']
  intro c hc
  have := h.cs c (by simpa using hc)
  exact decide_eq_true (by omega)
theorem shapedStrs (xs : List Str) (hx : ∀ s ∈ xs, NameOk s) : SeqAt.shaped (.list (xs.map PyData.str)) = true := by
  have h1 : PyData.canLayAll0 (xs.map PyData.str) = true := by
    induction xs with
    | nil => rfl
    | cons x xs ih =>
      show (PyData.strOk x && PyData.canLayAll0 (xs.map PyData.str)) = true
      rw [name_strOk (hx x List.mem_cons_self), ih fun s hs => hx s (List.mem_cons_of_mem _ hs)]; rfl
  have h2 : PyData.depthAll (xs.map PyData.str) = 0 := by
    clear h1 hx
    induction xs with
    | nil => rfl
    | cons x xs ih => show max 0 _ = 0; rw [ih]; rfl
  unfold SeqAt.shaped
  show (PyData.canLayAll0 (xs.map PyData.str) && decide (PyData.depthAll (xs.map PyData.str) + 1 ≤ 64)) = true
  rw [h1, h2]; rfl
theorem eqvStrs {xs : List Str} {b : Bool} (e : xs.isEmpty = b) : PyData.eqv (.list (xs.map PyData.str)) (.list []) = b := by
  rw [eqvNil, List.isEmpty_map]; exact e
def makerPairs : List Str := ["add", "less", "and", "or", "unlike", "same", "below", "add", "and"]
theorem makerP : ∀ x ∈ makerPairs, x ∈ pairWords := by decide +kernel
def spExprM : DSp := fun rs M Q _ => ∃ (a : Addr) (n w : Nat) (known : List Str), rs = [.o a, .int (w : Int), .lst (known.map R.str)] ∧ M a = some (.dr n) ∧ n < 2 ^ 54 ∧ 1 ≤ w ∧ w ≤ 12 ∧ known.length ≤ 100 ∧ (∀ s ∈ known, NameOk s) ∧
  ∀ (e : Xp) (m : Nat), XpOk w known e → m ≤ n + 8 → Q e.r (updM M a (.dr m))
theorem ok__law_expr (T : Txt w K mg) : DFn P w K mg base 4 (He.ga K "_law_expr") T.d__law_expr ["draw", "wide", "known"] (spExprM) := by
  refine dfn_of T.F__law_expr sc__law_expr (fun cdv A outer s H E hr tk hp => ⟨_, (dss_cons (ds_set 3 sc__law_expr.nd (de_call (ok__law_next T) (hr.mono (by decide)) T.g__law_next T.F__law_next.kp (b__law_next T) tk (da_cons (de_var 0) (da_cons de_int da_nil))))
    (dss_cons (ds_if (DW.dt (dw_or (dt_cmp (op_eqU hr.hu) sim_eq (de_var 2) (de_lst da_nil)) (dw_or1 (dt_cmp (op_eqU hr.hu) sim_eq (de_var 3) de_int)))) (dss_cons (ds_ret (de_tup (da_cons de_str (da_cons (de_call (ok__law_number T) (hr.mono (by decide)) T.g__law_number T.F__law_number.kp (b__law_number T) tk (da_cons (de_var 0) (da_cons (de_var 1) da_nil))) da_nil))))
    dss_nil) dss_nil)
    (dss_cons (ds_setLc (i := 4) (own := [("k", 7)]) rfl sc__law_expr.nd (di_range1 T.n_range de_int) (blkOk_by (by show blkC ["draw", "wide", "known", "way", "names", "most", "words", "k"] (defScope s__law_expr) _ _ = true; decide +kernel)) (simc1 (by decide)) (fun _ _ _ _ _ => (pg_name (i := 7) sc__law_expr.nd rfl (Or.inl rfl))) (fun _ _ _ _ _ => dts_nil) (fun _ _ _ _ _ => (de_ix (de_var 2) (de_call (ok__law_next T) (hr.mono (by decide)) T.g__law_next T.F__law_next.kp (b__law_next T) takes0 (da_cons (de_var 0) (da_cons (de_callB call_lenU sc_len T.n_len (da_cons (de_var 2) da_nil)) da_nil))))))
    (dss_cons (ds_if (dt_cmp op_ltU sim_lt (de_var 3) de_int) (dss_cons (ds_set 5 sc__law_expr.nd (de_ix (de_lst (da_cons (de_callB (call_mn rfl) sc_mn T.n_min (da_cons de_int (da_cons (de_op op_addU sim_add (de_var 1) de_int) da_nil))) (da_cons (de_callB (call_mn rfl) sc_mn T.n_min (da_cons de_int (da_cons (de_op op_addU sim_add (de_var 1) de_int) da_nil))) (da_cons de_int da_nil)))) (de_call (ok__law_next T) (hr.mono (by decide)) T.g__law_next T.F__law_next.kp (b__law_next T) tk (da_cons (de_var 0) (da_cons de_int da_nil)))))
    (dss_cons (ds_ret (de_tup (da_cons (de_ix (de_lst (da_cons de_str (da_cons de_str da_nil))) (de_op op_sub sim_I0 (de_var 3) de_int)) (da_cons (de_ix (de_var 4) de_int) (da_cons (de_call (ok__law_next T) (hr.mono (by decide)) T.g__law_next T.F__law_next.kp (b__law_next T) tk (da_cons (de_var 0) (da_cons (de_var 5) da_nil))) da_nil)))))
    dss_nil)) dss_nil)
    (dss_cons (ds_if (dt_cmp (op_eqU hr.hu) sim_eq (de_var 3) de_int) (dss_cons (ds_ret (de_op op_addU sim_add (de_tup (da_cons de_str da_nil)) (de_callTy call_tupU sc_tup T.n_tuple (da_cons (de_var 4) da_nil))))
    dss_nil) dss_nil)
    (dss_cons (ds_if (dt_cmp (op_eqU hr.hu) sim_eq (de_var 3) de_int) (dss_cons (ds_ret (de_tup (da_cons de_str (da_cons (de_ix (de_var 4) de_int) da_nil))))
    dss_nil) dss_nil)
    (dss_cons (ds_set 6 sc__law_expr.nd (de_lst (da_cons de_str (da_cons de_str (da_cons de_str (da_cons de_str (da_cons de_str (da_cons de_str (da_cons de_str (da_cons de_str (da_cons de_str da_nil)))))))))))
    (dss_cons (ds_ret (de_op op_addU sim_add (de_tup (da_cons (de_ix (de_var 6) (de_op op_sub sim_I0 (de_var 3) de_int)) da_nil)) (de_callTy call_tupU sc_tup T.n_tuple (da_cons (de_slice (de_var 4) do_none (do_some de_int)) da_nil))))
    dss_nil)))))))), fun rs M Q xw h hl => ?_⟩)
  obtain ⟨a, n, w, known, rfl, hM, hn, w1, w2, hkl, hkn, hQ⟩ := h
  refine ⟨a, 14, n, rfl, hM, by omega, divOk (by decide) (by decide), fun way y0 y1 => ?_⟩
  obtain ⟨ke, hke⟩ : ∃ b, known.isEmpty = b := ⟨_, rfl⟩
  refine ⟨_, _, .inl (pyStrs known), .inl rfl, shapedStrs known hkn, rfl, ?_⟩
  rw [eqvStrs hke]
  refine ⟨fun e => ⟨fun _ => ?_, tn⟩, fun e => ⟨fun q => ?_, fun q => ?_⟩⟩
  · refine ⟨a, _, w, rfl, updM_same, by omega, w1, w2, fun v m hv hm => ?_⟩
    rw [updM_updM]
    exact ⟨_, Sub.rfl', hQ (.num v) m ⟨True.intro, hv, fun u a m e => (by cases e), fun b hb => (by cases hb)⟩ (by omega)⟩
  · refine ⟨a, _, w, rfl, updM_same, by omega, w1, w2, fun v m hv hm => ?_⟩
    rw [updM_updM]
    exact ⟨_, Sub.rfl', hQ (.num v) m ⟨True.intro, hv, fun u a m e => (by cases e), fun b hb => (by cases hb)⟩ (by omega)⟩
  have hk0 : 0 < known.length := by
    have e' : ke = false := e
    rw [e'] at hke
    cases known with
    | nil => cases hke
    | cons b bs => rw [List.length_cons]; omega
  have q' : way ≠ 0 := of_decide_eq_false q
  refine ⟨⟨by decide, by decide⟩, lenLt (k := 3) rfl (by decide), fun i acc M' => ∃ vs : List Str, vs.length = i ∧ acc = vs.map R.str ∧ (∀ b ∈ vs, b ∈ known) ∧ M' = updM M a (.dr (n + 1 + i)), ⟨[], rfl, rfl, fun b hb => absurd hb List.not_mem_nil, rfl⟩, ?_, ?_⟩
  · rintro i r acc M' hr _ ⟨vs, hx, rfl, hb, rfl⟩
    obtain ⟨hi, rfl⟩ := intsFrom_get hr
    have hkl' : (known.map R.str).length = known.length := List.length_map ..
    refine ⟨fun _ => ?_, tn⟩
    refine ⟨a, _, _, rfl, updM_same, by omega, divOk (by omega) (by omega), fun j j0 j1 => ?_⟩
    rw [updM_updM]
    obtain ⟨r, hr, hm⟩ := atI_some (xs := known.map R.str) j0 j1
    obtain ⟨u, hu, rfl⟩ := List.mem_map.mp hm
    refine ⟨_, _, rfl, hr, vs ++ [u], by rw [List.length_append, hx]; rfl, by rw [List.map_append]; rfl, fun b hb' => ?_, rfl⟩
    rcases List.mem_append.mp hb' with h | h
    · exact hb b h
    · rw [List.mem_singleton.mp h]; exact hu
  rintro acc M' _ ⟨vs, hx, rfl, hb, rfl⟩
  rw [show (intsFrom 0 (Int.toNat 3)).length = 3 from rfl]
  match vs, hx, hb with
  | [p, q, t], _, hb =>
  have hp := hb p (by simp)
  have hq := hb q (by simp)
  have ht := hb t (by simp)
  refine ⟨fun l3 => ?_, fun l3 => ⟨fun e3 => ?_, fun e3 => ⟨fun e4 => ?_, fun e4 => ?_⟩⟩⟩
  · have l3' : way < 3 := of_decide_eq_true l3
    refine ⟨a, 3, _, rfl, updM_same, by omega, divOk (by decide) (by decide), fun j j0 j1 => ?_⟩
    refine pickL (n := 3) (show LsOf _ (.lst [.int (min 12 ((w : Int) + 1)), .int (min 12 ((w : Int) + 1)), .int 12]) _ from rfl) rfl j0 j1 fun r hr => ?_
    obtain ⟨mo, rfl, mo1, mo2⟩ : ∃ mo : Nat, r = .int (mo : Int) ∧ 1 ≤ mo ∧ mo ≤ 12 := by
      simp only [List.mem_cons, List.not_mem_nil, or_false] at hr
      rcases hr with rfl | rfl | rfl
      · exact ⟨min 12 (w + 1), by congr 1; omega, by omega, by omega⟩
      · exact ⟨min 12 (w + 1), by congr 1; omega, by omega, by omega⟩
      · exact ⟨12, rfl, by decide, by decide⟩
    rcases (show way = 1 ∨ way = 2 by omega) with rfl | rfl
    · refine ⟨_, _, rfl, rfl, _, _, rfl, rfl, a, _, _, rfl, updM_same, by omega, divOk (by omega) (by omega), fun v v0 v1 => ?_⟩
      rw [updM_updM, updM_updM]
      obtain ⟨v, rfl⟩ := Int.eq_ofNat_of_zero_le v0
      exact ⟨_, Sub.rfl', hQ (.mov true p v) _ ⟨by show v ≤ 1000; omega, True.intro, fun u a m e => by cases e; omega, fun b hb => by
        have : b = p := by simpa [Xp.names] using hb
        rw [this]; exact hp⟩ (by omega)⟩
    · refine ⟨_, _, rfl, rfl, _, _, rfl, rfl, a, _, _, rfl, updM_same, by omega, divOk (by omega) (by omega), fun v v0 v1 => ?_⟩
      rw [updM_updM, updM_updM]
      obtain ⟨v, rfl⟩ := Int.eq_ofNat_of_zero_le v0
      exact ⟨_, Sub.rfl', hQ (.mov false p v) _ ⟨by show v ≤ 1000; omega, True.intro, fun u a m e => by cases e; omega, fun b hb => by
        have : b = p := by simpa [Xp.names] using hb
        rw [this]; exact hp⟩ (by omega)⟩
  · refine ⟨_, rfl, lenLe (k := 1) (j := 3) rfl rfl (by decide), _, Sub.rfl', ?_⟩
    exact hQ (.pic p q t) _ ⟨True.intro, True.intro, fun u a m e => (by cases e), fun b hb => by
      have : b = p ∨ b = q ∨ b = t := by simpa [Xp.names] using hb
      rcases this with rfl | rfl | rfl
      · exact hp
      · exact hq
      · exact ht⟩ (by omega)
  · refine ⟨_, _, rfl, rfl, _, Sub.rfl', ?_⟩
    exact hQ (.cop p) _ ⟨True.intro, True.intro, fun u a m e => (by cases e), fun b hb => by
      have : b = p := by simpa [Xp.names] using hb
      rw [this]; exact hp⟩ (by omega)
  · have w5 : way ≠ 3 := of_decide_eq_false e3
    have w6 : way ≠ 4 := of_decide_eq_false e4
    have w7 : ¬ way < 3 := of_decide_eq_false l3
    obtain ⟨r, hr, hm⟩ := atI_some (xs := makerPairs.map R.str) (i := way - 5) (by omega) (by show way - 5 < 9; omega)
    obtain ⟨x, hx, rfl⟩ := List.mem_map.mp hm
    refine ⟨_, _, rfl, hr, _, rfl, _, rfl, lenLe (k := 1) (j := 2) rfl rfl (by decide), _, Sub.rfl', ?_⟩
    exact hQ (.par x p q) _ ⟨makerP x hx, True.intro, fun u a m e => (by cases e), fun b hb => by
      have : b = p ∨ b = q := by simpa [Xp.names] using hb
      rcases this with rfl | rfl
      · exact hp
      · exact hq⟩ (by omega)
end
section
variable {P : Program} {w : World} {K : PySem.W.Frag} {mg : Str → Option Value} {base : Heap}
theorem vput_same {κ : Type} [DecidableEq κ] {kvs : List (κ × R)} {k : κ} {v : R} (h : (valR kvs k).isSome = true) : (putR kvs k v).length = kvs.length := by
  unfold putR
  by_cases q : (kvs.any fun kv => decide (kv.1 = k)) = true
  · rw [if_pos q, List.length_map]
  · exfalso
    unfold valR at h
    have : (kvs.find? fun kv => decide (kv.1 = k)) = none := List.find?_eq_none.mpr fun x hx z => q (List.any_eq_true.mpr ⟨x, hx, z⟩)
    rw [this] at h
    cases h
/-- what the maker keeps: how wide words are, how many rows are left, the names -/
structure MadeOk (w : Nat) (names : List Str) (l : Nat) (kvs : List (Key × R)) : Prop where
  wd : valR kvs (.inr "wide") = some (.int (w : Int))
  lf : valR kvs (.inr "left") = some (.int (l : Int))
  nm : valR kvs (.inr "names") = some (.lst (names.map R.str))
  ln : kvs.length ≤ 4 ∧ ((valR kvs (.inr "there")).isSome = true ∨ kvs.length ≤ 3)
theorem keyNe : decide (("wide" : Str) = "left") = false ∧ decide (("wide" : Str) = "there") = false ∧ decide (("left" : Str) = "there") = false ∧ decide (("names" : Str) = "left") = false ∧ decide (("names" : Str) = "there") = false ∧ decide (("there" : Str) = "left") = false := by decide +kernel
theorem inr_ne {x y : Str} (h : decide (x = y) = false) : (Sum.inr x : Key) ≠ Sum.inr y := fun e => of_decide_eq_false h (Sum.inr.inj e)
theorem MadeOk.left {w l l' : Nat} {names : List Str} {kvs : List (Key × R)} {v : Int} (h : MadeOk w names l kvs) (e : v = (l' : Int)) : MadeOk w names l' (putR kvs (.inr "left") (.int v)) := by
  have same := vput_same (v := .int v) (show (valR kvs (.inr "left")).isSome = true by rw [h.lf]; rfl)
  refine ⟨?_, ?_, ?_, ?_⟩
  · rw [vput, if_neg (inr_ne keyNe.1)]; exact h.wd
  · rw [vput, if_pos rfl, e]
  · rw [vput, if_neg (inr_ne keyNe.2.2.2.1)]; exact h.nm
  · rw [same, vput, if_neg (inr_ne keyNe.2.2.2.2.2)]; exact h.ln
theorem MadeOk.there {w l : Nat} {names : List Str} {kvs : List (Key × R)} {v : R} (h : MadeOk w names l kvs) : MadeOk w names l (putR kvs (.inr "there") v) := by
  refine ⟨?_, ?_, ?_, ?_⟩
  · rw [vput, if_neg (inr_ne keyNe.2.1)]; exact h.wd
  · rw [vput, if_neg (inr_ne keyNe.2.2.1)]; exact h.lf
  · rw [vput, if_neg (inr_ne keyNe.2.2.2.2.1)]; exact h.nm
  · rw [vput, if_pos rfl]
    refine ⟨?_, .inl rfl⟩
    rcases h.ln.2 with q | q
    · rw [vput_same q]; exact h.ln.1
    · have := vput_len kvs (.inr "there") v; omega
theorem there_put {kvs : List (Key × R)} {v : R} : valR (putR kvs (.inr "there") v) (.inr "there") = some v := by rw [vput, if_pos rfl]
mutual
theorem th_len : ∀ (x : Rw) (known : List Str), (x.th known).length ≤ known.length + x.ct
  | .set a e, known => by
    rw [Rw.th, Rw.ct]
    split
    · omega
    · rw [List.length_append, List.length_singleton]; exact Nat.le_refl _
  | .tell _, known => by rw [Rw.th, Rw.ct]; omega
  | .iff _ p q, known => by
    rw [Rw.th, Rw.ct]
    have h1 := thl_len p known
    have h2 := List.length_filter_le (fun a => decide (a ∈ Rw.thl known q)) (Rw.thl known p)
    omega
  | .rnd n p, known => by
    rw [Rw.th, Rw.ct]
    have h1 := thl_len p known
    split <;> omega
theorem thl_len : ∀ (xs : List Rw) (known : List Str), (Rw.thl known xs).length ≤ known.length + Rw.ctl xs
  | [], known => by rw [Rw.thl, Rw.ctl]; omega
  | x :: xs, known => by
    rw [Rw.thl, Rw.ctl]
    have h1 := th_len x known
    have h2 := thl_len xs (x.th known)
    omega
end
mutual
theorem th_sub {w : Nat} {names : List Str} : ∀ (x : Rw) (d : Nat) (known : List Str), Rw.Vd w names d x → (∀ s ∈ known, s ∈ names) → ∀ s ∈ x.th known, s ∈ names
  | .set a e, d, known, h, hk => by
    rw [Rw.Vd] at h
    rw [Rw.th]
    split
    · exact hk
    · intro s hs
      rcases List.mem_append.mp hs with hs | hs
      · exact hk s hs
      · rw [List.mem_singleton.mp hs]; exact h.1
  | .tell _, d, known, h, hk => by rw [Rw.th]; exact hk
  | .iff _ p q, d, known, h, hk => by
    rw [Rw.Vd] at h
    rw [Rw.th]
    intro s hs
    exact thl_sub p (d - 1) known h.2.2.1 hk s (List.mem_filter.mp hs).1
  | .rnd n p, d, known, h, hk => by
    rw [Rw.Vd] at h
    rw [Rw.th]
    split
    · exact thl_sub p (d - 1) known h.2.2 hk
    · exact hk
theorem thl_sub {w : Nat} {names : List Str} : ∀ (xs : List Rw) (d : Nat) (known : List Str), Rw.Vdl w names d xs → (∀ s ∈ known, s ∈ names) → ∀ s ∈ Rw.thl known xs, s ∈ names
  | [], d, known, h, hk => by rw [Rw.thl]; exact hk
  | x :: xs, d, known, h, hk => by
    rw [Rw.Vdl] at h
    rw [Rw.thl]
    exact thl_sub xs d _ h.2 (th_sub x d known h.1 hk)
end
/-- how far the rows are made -/
structure RowSt (M : MH) (a b f : Addr) (n w l d : Nat) (names known : List Str) (xs : List Rw) (kvs : List (Key × R)) (m lft : Nat) (M' : MH) : Prop where
  va : Rw.Vdl w names d xs
  so : Rw.Sol known xs
  mo : MadeOk w names lft kvs
  sum : Rw.ctl xs + lft = l
  A : M' a = some (.dr m)
  mb : m ≤ n + 1 + 16 * Rw.ctl xs
  B : M' b = some (.dK kvs)
  F : M' f = some (.lst (Rw.rl xs))
  fr : ∀ c u, c ≠ a → c ≠ b → M c = some u → M' c = some u
theorem rl_app (xs ys : List Rw) : Rw.rl (xs ++ ys) = Rw.rl xs ++ Rw.rl ys := by rw [rl_map, rl_map, rl_map, List.map_append]
theorem RowSt.add {M M3 : MH} {a b f : Addr} {n w l d m m3 lft lft3 : Nat} {names known : List Str} {xs : List Rw} {kvs kvs3 : List (Key × R)} {M' : MH} (s : RowSt M a b f n w l d names known xs kvs m lft M') (x : Rw) (af : a ≠ f) (bf : b ≠ f) (hf : M f = none)
    (h1 : Rw.Vd w names d x) (h2 : x.So (Rw.thl known xs)) (h3 : MadeOk w names lft3 kvs3) (h4 : Rw.ctl xs + x.ct + lft3 = l) (h5 : M3 a = some (.dr m3)) (h6 : m3 ≤ n + 1 + 16 * (Rw.ctl xs + x.ct)) (h7 : M3 b = some (.dK kvs3)) (h9 : ∀ c u, c ≠ a → c ≠ b → M c = some u → M3 c = some u) :
    RowSt M a b f n w l d names known (xs ++ [x]) kvs3 m3 lft3 (updM M3 f (.lst (Rw.rl xs ++ [x.r]))) := by
  have c1 : Rw.ctl [x] = x.ct := by rw [Rw.ctl, Rw.ctl]; rfl
  refine ⟨(vdl_app _ _).mpr ⟨s.va, by rw [Rw.Vdl, Rw.Vdl]; exact ⟨h1, True.intro⟩⟩, (sol_app _ _ _).mpr ⟨s.so, by rw [Rw.Sol, Rw.Sol]; exact ⟨h2, True.intro⟩⟩, h3, by rw [ctl_app, c1]; exact h4, keep_ne h5 af, by rw [ctl_app, c1]; exact h6, keep_ne h7 bf, ?_, fun c u n1 n2 e => ?_⟩
  · rw [updM_same, rl_app, rl_map [x]]; rfl
  · rw [updM_ne (fun z => by rw [z, hf] at e; cases e)]
    exact h9 c u n1 n2 e
/-- how far the ways of an if are made -/
structure IfSt (M : MH) (a b f g h : Addr) (m0 l0 w d : Nat) (names th : List Str) (fr : List R) (i : Nat) (ps : List (List Rw)) (kvs : List (Key × R)) (m lft : Nat) (M' : MH) : Prop where
  len : ps.length = i
  va : ∀ p ∈ ps, Rw.Vdl w names d p
  so : ∀ p ∈ ps, Rw.Sol th p
  mo : MadeOk w names lft kvs
  sum : (ps.map Rw.ctl).sum + lft = l0
  A : M' a = some (.dr m)
  mb : m ≤ m0 + i + 16 * (ps.map Rw.ctl).sum
  B : M' b = some (.dK kvs)
  F : M' f = some (.lst fr)
  W : M' g = some (.lst (ps.map fun p => .tup (Rw.rl p)))
  E : M' h = some (.lst (ps.map fun p => .lst ((Rw.thl th p).map R.str)))
  fr : ∀ c u, c ≠ a → c ≠ b → M c = some u → M' c = some u
theorem IfSt.add {M : MH} {a b f g h : Addr} {m0 l0 w d : Nat} {names th : List Str} {fr : List R} {i : Nat} {ps : List (List Rw)} {kvs kvs3 : List (Key × R)} {m lft m3 lft3 : Nat} {M' M3 : MH} (s : IfSt M a b f g h m0 l0 w d names th fr i ps kvs m lft M') (p : List Rw)
    (ag : a ≠ g) (ah : a ≠ h) (bg : b ≠ g) (bh : b ≠ h) (fg : f ≠ g) (fh : f ≠ h) (gh : g ≠ h) (fa : f ≠ a) (fb : f ≠ b) (nM1 : ∀ c v, c ≠ a → c ≠ b → M c = some v → c ≠ g) (nM2 : ∀ c v, c ≠ a → c ≠ b → M c = some v → c ≠ h)
    (h1 : Rw.Vdl w names d p) (h2 : Rw.Sol th p) (h3 : MadeOk w names lft3 kvs3) (h4 : Rw.ctl p + lft3 = lft) (h5 : M3 a = some (.dr m3)) (h6 : m3 ≤ m + 1 + 16 * Rw.ctl p) (h7 : M3 b = some (.dK kvs3)) (h8 : ∀ c u, c ≠ a → c ≠ b → M' c = some u → M3 c = some u) :
    IfSt M a b f g h m0 l0 w d names th fr (i + 1) (ps ++ [p]) kvs3 m3 lft3 (updM (updM M3 g (.lst ((ps.map fun p => .tup (Rw.rl p)) ++ [.tup (Rw.rl p)]))) h (.lst ((ps.map fun p => .lst ((Rw.thl th p).map R.str)) ++ [.lst ((Rw.thl th p).map R.str)]))) := by
  have s1 := s.sum
  have s2 := s.mb
  have e : ((ps ++ [p]).map Rw.ctl).sum = (ps.map Rw.ctl).sum + Rw.ctl p := by simp
  refine ⟨by rw [List.length_append, s.len]; rfl, ?_, ?_, h3, by rw [e]; omega, keep_ne (keep_ne h5 ag) ah, by rw [e]; omega, keep_ne (keep_ne h7 bg) bh, keep_ne (keep_ne (h8 _ _ fa fb s.F) fg) fh, ?_, ?_, fun c u n1 n2 e => keep_ne (keep_ne (h8 _ _ n1 n2 (s.fr c u n1 n2 e)) (nM1 c u n1 n2 e)) (nM2 c u n1 n2 e)⟩
  · intro q hq
    rcases List.mem_append.mp hq with hq | hq
    · exact s.va q hq
    · rw [List.mem_singleton.mp hq]; exact h1
  · intro q hq
    rcases List.mem_append.mp hq with hq | hq
    · exact s.so q hq
    · rw [List.mem_singleton.mp hq]; exact h2
  · rw [updM_ne gh, updM_same, List.map_append]; rfl
  · rw [updM_same, List.map_append]; rfl
def pIn (ws : List Str) (r : R) : Bool := match r with
  | .str s => decide (s ∈ ws)
  | _ => false
theorem inList (ws : List Str) (ks : List Str) : ((ks.map R.str).filter (pIn ws)).map id = (ks.filter fun k => decide (k ∈ ws)).map R.str := by
  rw [List.map_id, List.filter_map]
  rfl
theorem addNew {th : List Str} {u : Str} {M : MH} {P : R → MH → Prop} (h : P (.lst ((if u ∈ th then th else th ++ [u]).map R.str)) M) (hl : th.length + 1 ≤ sizeLine) :
    dIn true (.str u) (.lst (th.map R.str)) M (fun x M1 => fInt [x] M1 (fun k M2 => dRep (.lst [.str u]) k M2 (fun y M3 => dAdd (.lst (th.map R.str)) y M3 P))) := by
  have sl : sizeLine = 16777216 := by decide
  refine ⟨_, rfl, rfl, flat_strs th, ?_⟩
  by_cases ut : u ∈ th
  · rw [if_pos ut] at h
    rw [show inR (.str u) (th.map R.str) = true by rw [in_strs]; exact decide_eq_true ut]
    exact ⟨by decide, by decide, (by show 1 * 0 ≤ _; omega), _, _, rfl, rfl, (by rw [List.length_map]; show _ + 0 ≤ _; omega), (by show P (.lst (th.map R.str ++ [])) M; rw [List.append_nil]; exact h)⟩
  · rw [if_neg ut, List.map_append] at h
    rw [show inR (.str u) (th.map R.str) = false by rw [in_strs]; exact decide_eq_false ut]
    exact ⟨by decide, by decide, (by show 1 * 1 ≤ _; omega), _, _, rfl, rfl, (by rw [List.length_map]; show _ + 1 ≤ _; omega), h⟩
def spRows (d : Nat) : DSp := fun rs M Q _ => ∃ (a b : Addr) (n w l : Nat) (names known : List Str) (kvs : List (Key × R)), rs = [.o a, .o b, .lst (known.map R.str), .int (d : Int)] ∧ 1 ≤ d ∧ d ≤ 4 ∧ M a = some (.dr n) ∧ n + 10000 * d ≤ 2 ^ 50 ∧ M b = some (.dK kvs) ∧ MadeOk w names l kvs ∧
  1 ≤ w ∧ w ≤ 12 ∧ l ≤ 60 ∧ known.length + l ≤ 90 ∧ 1 ≤ names.length ∧ names.length ≤ 50 ∧ (∀ s ∈ names, NameOk s) ∧ (∀ s ∈ known, s ∈ names) ∧
  ∀ (xs : List Rw) (kvs' : List (Key × R)) (m l' : Nat) (M' : MH), Rw.Vdl w names d xs → Rw.Sol known xs → Rw.ctl xs + l' = l → MadeOk w names l' kvs' → valR kvs' (.inr "there") = some (.lst ((Rw.thl known xs).map R.str)) →
    m ≤ n + 1 + 16 * Rw.ctl xs → M' a = some (.dr m) → M' b = some (.dK kvs') → (∀ c u, c ≠ a → c ≠ b → M c = some u → M' c = some u) → Q (.tup (Rw.rl xs)) M'
theorem spRows_void : ∀ rs M Q xw, ¬ spRows 0 rs M Q xw := fun _ _ _ _ ⟨_, _, _, _, _, _, _, _, _, h, _⟩ => by omega
theorem ok__law_rows (T : Txt w K mg) : ∀ d : Nat, DFn P w K mg base (d + 5) (He.ga K "_law_rows") T.d__law_rows ["draw", "made", "known", "deep"] (spRows d)
 | 0 => dfn_void T.F__law_rows sc__law_rows spRows_void
 | d + 1 => by
  refine dfn_of T.F__law_rows sc__law_rows (fun cdv A outer s H E hr tk hp => ⟨_, (dss_cons (ds_par 4 5 rfl sc__law_rows.nd (da_cons (de_lstO da_nil) (da_cons (de_callTy call_lstU sc_lst T.n_list (da_cons (de_var 2) da_nil)) da_nil)))
    (dss_cons (ds_for hp rfl (di_range1 T.n_range (de_op op_addU sim_add de_int (de_call (ok__law_next T) (hr.mono (by omega)) T.g__law_next T.F__law_next.kp (b__law_next T) tk (da_cons (de_var 0) (da_cons de_int da_nil))))) (dg_name 6 sc__law_rows.nd) (dss_cons (ds_if (dt_cmp op_ltU sim_lt (de_dget hr.hu (de_var 1) de_str) de_int) (dss_cons ds_brk
    dss_nil) dss_nil)
    (dss_cons (ds_dput hr.hu (de_var 1) de_str (de_op op_sub sim_I0 (de_dget hr.hu (de_var 1) de_str) de_int))
    (dss_cons (ds_set 7 sc__law_rows.nd (de_call (ok__law_next T) (hr.mono (by omega)) T.g__law_next T.F__law_next.kp (b__law_next T) tk (da_cons (de_var 0) (da_cons de_int da_nil))))
    (dss_cons (ds_if (DW.dt (dw_and (dt_cmp (op_eqU hr.hu) sim_eq (de_var 7) de_int) (dw_and1 (dt_cmp (op_neU hr.hu) sim_ne (de_var 5) (de_lst da_nil))))) (dss_cons (ds_expr (de_append (de_var 4) (da_cons (de_tup (da_cons de_str (da_cons (de_ix (de_var 5) (de_call (ok__law_next T) (hr.mono (by omega)) T.g__law_next T.F__law_next.kp (b__law_next T) tk (da_cons (de_var 0) (da_cons (de_callB call_lenU sc_len T.n_len (da_cons (de_var 5) da_nil)) da_nil)))) da_nil))) da_nil)))
    dss_nil) (dss_cons (ds_if (DW.dt (dw_and (dt_cmp (op_eqU hr.hu) sim_eq (de_var 7) de_int) (dw_and (dt_cmp (op_neU hr.hu) sim_ne (de_var 5) (de_lst da_nil)) (dw_and1 (dt_cmp op_gt sim_B0 (de_var 3) de_int))))) (dss_cons (ds_set 8 sc__law_rows.nd (de_ix (de_var 5) (de_call (ok__law_next T) (hr.mono (by omega)) T.g__law_next T.F__law_next.kp (b__law_next T) tk (da_cons (de_var 0) (da_cons (de_callB call_lenU sc_len T.n_len (da_cons (de_var 5) da_nil)) da_nil)))))
    (dss_cons (ds_set 9 sc__law_rows.nd (de_ix (de_lst (da_cons de_str (da_cons de_str (da_cons de_str (da_cons de_str da_nil))))) (de_call (ok__law_next T) (hr.mono (by omega)) T.g__law_next T.F__law_next.kp (b__law_next T) tk (da_cons (de_var 0) (da_cons de_int da_nil)))))
    (dss_cons (ds_asg (de_tup (da_cons (de_var 5) (da_cons (de_lstO da_nil) (da_cons (de_lstO da_nil) da_nil)))) (dg_tup rfl (dgs_cons (dg_name 10 sc__law_rows.nd) (dgs_cons (dg_name 11 sc__law_rows.nd) (dgs_cons (dg_name 12 sc__law_rows.nd) dgs_nil)))))
    (dss_cons (ds_for hp rfl (di_tup (de_tup (da_cons de_str (da_cons de_str da_nil)))) (dg_name 13 sc__law_rows.nd) (dss_cons (ds_dput hr.hu (de_var 1) de_str (de_var 10))
    (dss_cons (ds_expr (de_append (de_var 11) (da_cons (de_if (dt_cmp op_inU sim_in (de_var 9) (de_tup (da_cons de_str (da_cons (de_var 13) da_nil)))) (de_call (ok__law_rows T d) (hr.mono (by omega)) T.g__law_rows T.F__law_rows.kp (b__law_rows T) tk (da_cons (de_var 0) (da_cons (de_var 1) (da_cons (de_var 10) (da_cons (de_op op_sub sim_I0 (de_var 3) de_int) da_nil))))) (de_tup da_nil)) da_nil)))
    (dss_cons (ds_expr (de_append (de_var 12) (da_cons (de_dget hr.hu (de_var 1) de_str) da_nil)))
    dss_nil))))
    (dss_cons (ds_setLc (i := 5) (own := [("one", 17)]) rfl sc__law_rows.nd (di_list (de_ix (de_var 12) de_int)) (blkOk_by (by show blkC ["draw", "made", "known", "deep", "found", "there", "k", "way", "name", "sides", "ahead", "ways", "ends", "side", "many", "rows", "some", "one"] (defScope s__law_rows) _ _ = true; decide +kernel)) (simc1 (by decide)) (fun _ _ _ _ _ => (pg_name (i := 17) sc__law_rows.nd rfl (Or.inl rfl))) (fun _ _ _ _ _ => (dts_one (dt_cmp op_inU sim_in (de_var 17) (de_ix (de_var 12) de_int)))) (fun _ _ _ _ _ => (de_var 17)))
    (dss_cons (ds_expr (de_append (de_var 4) (da_cons (de_op op_addU sim_add (de_tup (da_cons de_str (da_cons (de_var 8) da_nil))) (de_callTy call_tupU sc_tup T.n_tuple (da_cons (de_var 11) da_nil))) da_nil)))
    dss_nil)))))) (dss_cons (ds_if (DW.dt (dw_and (dt_cmp (op_eqU hr.hu) sim_eq (de_var 7) de_int) (dw_and1 (dt_cmp op_gt sim_B0 (de_var 3) de_int)))) (dss_cons (ds_set 14 sc__law_rows.nd (de_ix (de_lst (da_cons de_int (da_cons de_int (da_cons de_int (da_cons de_int (da_cons de_int (da_cons (de_ix (de_lst (da_cons de_int (da_cons (de_call (ok__law_next T) (hr.mono (by omega)) T.g__law_next T.F__law_next.kp (b__law_next T) tk (da_cons (de_var 0) (da_cons de_int da_nil))) (da_cons de_int da_nil)))) (de_op op_mod sim_IC (de_var 3) de_int)) da_nil))))))) (de_call (ok__law_next T) (hr.mono (by omega)) T.g__law_next T.F__law_next.kp (b__law_next T) tk (da_cons (de_var 0) (da_cons de_int da_nil)))))
    (dss_cons (ds_dput hr.hu (de_var 1) de_str (de_var 5))
    (dss_cons (ds_set 15 sc__law_rows.nd (de_if (dt_cmp op_gt sim_B0 (de_call (ok__law_next T) (hr.mono (by omega)) T.g__law_next T.F__law_next.kp (b__law_next T) tk (da_cons (de_var 0) (da_cons de_int da_nil))) de_int) (de_call (ok__law_rows T d) (hr.mono (by omega)) T.g__law_rows T.F__law_rows.kp (b__law_rows T) tk (da_cons (de_var 0) (da_cons (de_var 1) (da_cons (de_var 5) (da_cons (de_op op_sub sim_I0 (de_var 3) de_int) da_nil))))) (de_tup da_nil)))
    (dss_cons (ds_expr (de_append (de_var 4) (da_cons (de_tup (da_cons de_str (da_cons (de_var 14) (da_cons (de_var 15) da_nil)))) da_nil)))
    (dss_cons (ds_set 5 sc__law_rows.nd (de_if (dt_cmp op_gt sim_B0 (de_var 14) de_int) (de_dget hr.hu (de_var 1) de_str) (de_var 5)))
    dss_nil))))) (dss_cons (ds_set 16 sc__law_rows.nd (de_if (DW.dt (dw_and (dt_cmp (op_neU hr.hu) sim_ne (de_var 5) (de_lst da_nil)) (dw_and1 (dt_cmp (op_eqU hr.hu) sim_eq (de_call (ok__law_next T) (hr.mono (by omega)) T.g__law_next T.F__law_next.kp (b__law_next T) tk (da_cons (de_var 0) (da_cons de_int da_nil))) de_int)))) (de_var 5) (de_dget hr.hu (de_var 1) de_str)))
    (dss_cons (ds_set 8 sc__law_rows.nd (de_ix (de_var 16) (de_call (ok__law_next T) (hr.mono (by omega)) T.g__law_next T.F__law_next.kp (b__law_next T) tk (da_cons (de_var 0) (da_cons (de_callB call_lenU sc_len T.n_len (da_cons (de_var 16) da_nil)) da_nil)))))
    (dss_cons (ds_expr (de_append (de_var 4) (da_cons (de_tup (da_cons de_str (da_cons (de_var 8) (da_cons (de_call (ok__law_expr T) (hr.mono (by omega)) T.g__law_expr T.F__law_expr.kp (b__law_expr T) tk (da_cons (de_var 0) (da_cons (de_dget hr.hu (de_var 1) de_str) (da_cons (de_var 5) da_nil)))) da_nil)))) da_nil)))
    (dss_cons (ds_set 5 sc__law_rows.nd (de_op op_addU sim_add (de_var 5) (de_op op_rep sim_rep (de_lst (da_cons (de_var 8) da_nil)) (de_callTy call_intU sc_int T.n_int (da_cons (de_cmp op_notInU sim_in (de_var 8) (de_var 5)) da_nil)))))
    dss_nil)))))
    dss_nil))
    dss_nil))
    dss_nil)))))
    (dss_cons (ds_dput hr.hu (de_var 1) de_str (de_var 5))
    (dss_cons (ds_ret (de_callTy call_tupU sc_tup T.n_tuple (da_cons (de_var 4) da_nil)))
    dss_nil)))), fun rs M Q xw h hl => ?_⟩)
  obtain ⟨a, b, n, w, l, names, known, kvs, rfl, d1, d4, hA, hn, hB, hmo, w1, w2, hl60, hkn, hn1, hn2, hnm, hks, hQ⟩ := h
  have sl : sizeLine = 16777216 := by decide
  have ab : a ≠ b := fun z => by rw [z, hB] at hA; cases hA
  intro f hf
  have hfM : M f = none := hf
  have af : a ≠ f := ne_new hA hf
  have bf : b ≠ f := ne_new hB hf
  refine ⟨_, rfl, ?_⟩
  refine ⟨a, 5, n, rfl, keep_ne hA af, by omega, divOk (by decide) (by decide), fun many y0 y1 => ⟨⟨by omega, by omega⟩, fun i g' M' => ∃ (xs : List Rw) (th : List Str) (kvs' : List (Key × R)) (m lft : Nat) (s6 s7 s8 s9 s10 s11 s12 s13 s14 s15 s16 s17 : Option R),
    g' = [some (.o a), some (.o b), some (.lst (known.map R.str)), some (.int ((d + 1 : Nat) : Int)), some (.o f), some (.lst (th.map R.str)), s6, s7, s8, s9, s10, s11, s12, s13, s14, s15, s16, s17] ∧ th = Rw.thl known xs ∧ RowSt M a b f n w l (d + 1) names known xs kvs' m lft M',
    ⟨[], known, kvs, n + 1, l, _, _, _, _, _, _, _, _, _, _, _, _, rfl, by rw [Rw.thl], ⟨True.intro, True.intro, hmo, by rw [Rw.ctl]; omega, updM_same, by omega, by rw [updM_ne ab.symm]; exact keep_ne hB bf, by rw [updM_ne af.symm, updM_same, Rw.rl], fun c u n1 n2 e => by rw [updM_ne n1, updM_ne (fun z => by rw [z, hfM] at e; cases e)]; exact e⟩⟩, ?_, ?_⟩⟩
  · rintro i r g' M' hr ⟨xs, th, kvs', m, lft, s6, s7, s8, s9, s10, s11, s12, s13, s14, s15, s16, s17, rfl, hth, st⟩
    obtain ⟨hi, rfl⟩ := intsFrom_get hr
    have hsum := st.sum
    have hmb := st.mb
    have hmb2 : m ≤ n + 1 + 16 * 60 := by omega
    refine ⟨kvs', _, st.B, st.mo.lf, fun q => ?_, fun q => ?_⟩
    · refine ⟨kvs', st.B, by have := st.mo.ln.1; omega, ?_⟩
      subst hth
      refine ⟨_, keep_ne st.F bf.symm, _, Sub.rfl', hQ xs _ m lft _ st.va st.so st.sum st.mo.there there_put st.mb (keep_ne st.A ab) updM_same fun c u n1 n2 e => by rw [updM_ne n2]; exact st.fr c u n1 n2 e⟩
    have hl1 : 1 ≤ lft := by
      have := of_decide_eq_false q
      omega
    have mo1 : MadeOk w names (lft - 1) (putR kvs' (.inr "left") (.int ((lft : Int) - 1))) := st.mo.left (by omega)
    refine ⟨kvs', _, st.B, st.mo.lf, kvs', st.B, by have := st.mo.ln.1; omega, ?_⟩
    refine ⟨a, 10, m, rfl, keep_ne st.A ab, by omega, divOk (by decide) (by decide), fun way z0 z1 => ?_⟩
    have A2 : updM (updM M' b (.dK (putR kvs' (.inr "left") (.int ((lft : Int) - 1))))) a (.dr (m + 1)) a = some (.dr (m + 1)) := updM_same
    have B2 : updM (updM M' b (.dK (putR kvs' (.inr "left") (.int ((lft : Int) - 1))))) a (.dr (m + 1)) b = some (.dK (putR kvs' (.inr "left") (.int ((lft : Int) - 1)))) := by rw [updM_ne ab.symm, updM_same]
    have F2 : updM (updM M' b (.dK (putR kvs' (.inr "left") (.int ((lft : Int) - 1))))) a (.dr (m + 1)) f = some (.lst (Rw.rl xs)) := by rw [updM_ne af.symm, updM_ne bf.symm]; exact st.F
    have fr2 : ∀ c u, c ≠ a → c ≠ b → M c = some u → updM (updM M' b (.dK (putR kvs' (.inr "left") (.int ((lft : Int) - 1))))) a (.dr (m + 1)) c = some u := fun c u n1 n2 e => by rw [updM_ne n1, updM_ne n2]; exact st.fr c u n1 n2 e
    generalize updM (updM M' b (.dK (putR kvs' (.inr "left") (.int ((lft : Int) - 1))))) a (.dr (m + 1)) = M2 at A2 B2 F2 fr2 ⊢
    generalize putR kvs' (.inr "left") (.int ((lft : Int) - 1)) = kvs1 at mo1 B2
    have ths : ∀ s ∈ th, s ∈ names := by rw [hth]; exact thl_sub xs (d + 1) known st.va hks
    have thn : ∀ s ∈ th, NameOk s := fun s hs => hnm s (ths s hs)
    have thl' : th.length ≤ known.length + Rw.ctl xs := by rw [hth]; exact thl_len xs known
    obtain ⟨te, hte⟩ : ∃ v, th.isEmpty = v := ⟨_, rfl⟩
    have thp : te = false → 0 < th.length := fun e => by
      rw [e] at hte
      cases th with
      | nil => cases hte
      | cons y ys => rw [List.length_cons]; omega
    have lx : (Rw.rl xs).length < sizeLine := by
      rw [rl_map, List.length_map]
      have := len_ctl xs
      omega
    refine ⟨fun e1 => ⟨_, _, .inl (pyStrs th), .inl rfl, shapedStrs th thn, rfl, ?A⟩, fun e1 => ⟨nt, fun _ => ⟨fun e2 => ⟨_, _, .inl (pyStrs th), .inl rfl, shapedStrs th thn, rfl, ?B⟩, fun e2 => ⟨nt, fun _ => ⟨fun e3 => ⟨fun e4 => ?C, fun e4 => ?e1⟩, fun e3 => ⟨nt, fun _ => ?e2⟩⟩⟩⟩⟩⟩
    case' A =>
      rw [eqvStrs hte]
      refine ⟨fun e5 => ?tell, fun e5 => ⟨fun z => absurd ((of_decide_eq_true e1).symm.trans (of_decide_eq_true z)) (by decide), fun _ => ⟨nt, fun _ => ⟨fun z => absurd ((of_decide_eq_true e1).symm.trans (of_decide_eq_true z)) (by decide), fun _ => ⟨nt, fun _ => ?e3⟩⟩⟩⟩⟩
    case' B =>
      rw [eqvStrs hte]
      refine ⟨fun e5 => ⟨fun e6 => ?cif, fun e6 => ⟨fun z => absurd ((of_decide_eq_true e2).symm.trans (of_decide_eq_true z)) (by decide), fun _ => ⟨nt, fun _ => ?e4⟩⟩⟩, fun e5 => ⟨nt, fun _ => ⟨fun z => absurd ((of_decide_eq_true e2).symm.trans (of_decide_eq_true z)) (by decide), fun _ => ⟨nt, fun _ => ?e5⟩⟩⟩⟩
    case tell =>
      have h0 := thp (by cases te with | false => rfl | true => cases e5)
      refine ⟨⟨_, F2⟩, a, _, _, rfl, A2, by omega, divOk (by rw [List.length_map]; omega) (by rw [List.length_map]; omega), fun j j0 j1 => ?_⟩
      obtain ⟨r, hr2, hm2⟩ := atI_some (xs := th.map R.str) j0 j1
      obtain ⟨u, hu, rfl⟩ := List.mem_map.mp hm2
      have er : (Rw.tell u).r = .tup [.str "tell", .str u] := by rw [Rw.r]
      have ec : (Rw.tell u).ct = 1 := by rw [Rw.ct]
      have new := st.add (M3 := updM M2 a (.dr (m + 1 + 1))) (m3 := m + 1 + 1) (.tell u) af bf hfM (by rw [Rw.Vd]; exact ths u hu) (by rw [Rw.So, ← hth]; exact hu) mo1 (by rw [ec]; omega) updM_same (by rw [ec]; omega) (keep_ne B2 ab.symm) fun c u n1 n2 e => by rw [updM_ne n1]; exact fr2 c u n1 n2 e
      rw [er] at new
      refine ⟨_, _, rfl, hr2, _, keep_ne F2 af.symm, lx, xs ++ [.tell u], th, kvs1, _, _, _, _, _, _, _, _, _, _, _, _, _, _, rfl, ?_, new⟩
      rw [thl_app, Rw.thl, Rw.thl, Rw.th, ← hth]
    case cif =>
      have h0 := thp (by cases te with | false => rfl | true => cases e5)
      refine ⟨a, _, _, rfl, A2, by omega, divOk (by rw [List.length_map]; omega) (by rw [List.length_map]; omega), fun j j0 j1 => ?_⟩
      obtain ⟨r, hr2, hm2⟩ := atI_some (xs := th.map R.str) j0 j1
      obtain ⟨u, hu, rfl⟩ := List.mem_map.mp hm2
      refine ⟨_, _, rfl, hr2, ?_⟩
      refine ⟨a, 4, _, rfl, updM_same, by omega, divOk (by decide) (by decide), fun j j0 j1 => ?_⟩
      rw [updM_updM]
      refine pickL (n := 4) (show LsOf _ (.lst [.str "both", .str "both", .str "first", .str "second"]) _ from rfl) rfl j0 j1 fun r hr => ?_
      obtain ⟨sd, rfl⟩ : ∃ sd : Str, r = .str sd := by
        simp only [List.mem_cons, List.not_mem_nil, or_false] at hr
        rcases hr with rfl | rfl | rfl | rfl <;> exact ⟨_, rfl⟩
      clear hr j0 j1 hr2 hm2
      intro g1 hg1 g2 hg2
      have hgM1 : updM M2 a (.dr (m + 1 + 1 + 1)) g1 = none := hg1
      have hgM2 : updM (updM M2 a (.dr (m + 1 + 1 + 1))) g1 (.lst []) g2 = none := hg2
      have ag1 : a ≠ g1 := ne_new updM_same hgM1
      have bg1 : b ≠ g1 := ne_new (keep_ne B2 ab.symm) hgM1
      have fg1 : f ≠ g1 := ne_new (keep_ne F2 af.symm) hgM1
      have g12 : g1 ≠ g2 := ne_new updM_same hgM2
      have ag2 : a ≠ g2 := ne_new (keep_ne updM_same ag1) hgM2
      have bg2 : b ≠ g2 := ne_new (keep_ne (keep_ne B2 ab.symm) bg1) hgM2
      have fg2 : f ≠ g2 := ne_new (keep_ne (keep_ne F2 af.symm) fg1) hgM2
      have nM1 : ∀ c v, c ≠ a → c ≠ b → M c = some v → c ≠ g1 := fun c v n1 n2 e z => by
        rw [z] at e n1 n2
        have := fr2 g1 v n1 n2 e
        rw [updM_ne n1, this] at hgM1
        cases hgM1
      have nM2 : ∀ c v, c ≠ a → c ≠ b → M c = some v → c ≠ g2 := fun c v n1 n2 e z => by
        have n3 := nM1 c v n1 n2 e
        rw [z] at e n1 n2 n3
        have := fr2 g2 v n1 n2 e
        rw [updM_ne n3, updM_ne n1, this] at hgM2
        cases hgM2
      refine ⟨rfl, ?_⟩
      refine ⟨fun i2 g' M' => ∃ (ps : List (List Rw)) (kvs2 : List (Key × R)) (m2 lft2 : Nat) (s13 s14 s15 s16 s17 : Option R),
        g' = [some (.o a), some (.o b), some (.lst (known.map R.str)), some (.int ((d + 1 : Nat) : Int)), some (.o f), some (.lst (th.map R.str)), some (.int (0 + ↑i)), some (.int way), some (.str u), some (.str sd), some (.lst (th.map R.str)), some (.o g1), some (.o g2), s13, s14, s15, s16, s17] ∧
        IfSt M a b f g1 g2 (m + 1 + 1 + 1) (lft - 1) w d names th (Rw.rl xs) i2 ps kvs2 m2 lft2 M', ⟨[], kvs1, m + 1 + 1 + 1, lft - 1, _, _, _, _, _, rfl, rfl, (fun p hp => absurd hp List.not_mem_nil), (fun p hp => absurd hp List.not_mem_nil), mo1, (by show 0 + (lft - 1) = lft - 1; omega), keep_ne (keep_ne updM_same ag1) ag2, (by show _ ≤ _ + 0 + 16 * 0; omega), keep_ne (keep_ne (keep_ne B2 ab.symm) bg1) bg2, keep_ne (keep_ne (keep_ne F2 af.symm) fg1) fg2, keep_ne updM_same g12, updM_same, fun c v n1 n2 e => keep_ne (keep_ne (keep_ne (fr2 c v n1 n2 e) n1) (nM1 c v n1 n2 e)) (nM2 c v n1 n2 e)⟩, ?_, ?_⟩
      · rintro i2 r g' M' hr ⟨ps, kvs2, m2, lft2, s13, s14, s15, s16, s17, rfl, si⟩
        obtain ⟨side, rfl, hi2⟩ : ∃ side : Str, r = .str side ∧ i2 < 2 := by
          match i2, hr with
          | 0, hr => cases hr; exact ⟨_, rfl, by decide⟩
          | 1, hr => cases hr; exact ⟨_, rfl, by decide⟩
        have hm2 := si.mb
        have hs2 := si.sum
        have hl2 := si.len
        refine ⟨kvs2, si.B, by have := si.mo.ln.1; omega, ?_⟩
        have d2 : 1 < d + 1 := by have := of_decide_eq_true e6; omega
        refine ⟨⟨_, keep_ne si.W bg1.symm⟩, rfl, rfl, fun q => ?_, fun q => ?_⟩
        · refine ⟨a, b, m2, w, lft2, names, th, _, (by show [R.o a, R.o b, _, R.int (((d + 1 : Nat) : Int) - 1)] = _; rw [show ((d + 1 : Nat) : Int) - 1 = (d : Int) by omega]), by omega, by omega, keep_ne si.A ab, by omega, updM_same, si.mo.there, w1, w2, by omega, by omega, hn1, hn2, hnm, ths, fun p kvs3 m3 l3 M3 v1 v2 v3 v4 v5 v6 v7 v8 v9 => ?_⟩
          have v9' : ∀ c u, c ≠ a → c ≠ b → M' c = some u → M3 c = some u := fun c u n1 n2 e => v9 c u n1 n2 (keep_ne e n2)
          refine ⟨_, v9' _ _ ag1.symm bg1.symm si.W, by rw [List.length_map]; omega, ⟨_, keep_ne (v9' _ _ ag2.symm bg2.symm si.E) g12.symm⟩, kvs3, _, keep_ne v8 bg1, v5, _, keep_ne (v9' _ _ ag2.symm bg2.symm si.E) g12.symm, by rw [List.length_map]; omega, ps ++ [p], kvs3, m3, l3, _, _, _, _, _, rfl, si.add p ag1 ag2 bg1 bg2 fg1 fg2 g12 af.symm bf.symm nM1 nM2 v1 v2 v4 v3 v7 v6 v8 v9'⟩
        · have v9' : ∀ c u, c ≠ a → c ≠ b → M' c = some u → updM M' b (.dK (putR kvs2 (.inr "there") (.lst (th.map R.str)))) c = some u := fun c u n1 n2 e => keep_ne e n2
          refine ⟨_, v9' _ _ ag1.symm bg1.symm si.W, by rw [List.length_map]; omega, ⟨_, keep_ne (v9' _ _ ag2.symm bg2.symm si.E) g12.symm⟩, _, _, keep_ne updM_same bg1, there_put, _, keep_ne (v9' _ _ ag2.symm bg2.symm si.E) g12.symm, by rw [List.length_map]; omega, ps ++ [[]], _, m2, lft2, _, _, _, _, _, rfl, si.add [] ag1 ag2 bg1 bg2 fg1 fg2 g12 af.symm bf.symm nM1 nM2 True.intro True.intro si.mo.there (Nat.zero_add _) (keep_ne si.A ab) (by omega) updM_same v9'⟩
      · rintro g' M' ⟨ps, kvs2, m2, lft2, s13, s14, s15, s16, s17, rfl, si⟩
        have hm2 : m2 ≤ m + 1 + 1 + 1 + 2 + 16 * (ps.map Rw.ctl).sum := si.mb
        have hs2 := si.sum
        have hl2 : ps.length = 2 := si.len
        obtain ⟨p, q, rfl⟩ : ∃ p q, ps = [p, q] := by
          match ps, hl2 with
          | [p, q], _ => exact ⟨p, q, rfl⟩
        have hW : M' g1 = some (.lst [.tup (Rw.rl p), .tup (Rw.rl q)]) := si.W
        have hE : M' g2 = some (.lst [.lst ((Rw.thl th p).map R.str), .lst ((Rw.thl th q).map R.str)]) := si.E
        have es : ([p, q].map Rw.ctl).sum = Rw.ctl p + Rw.ctl q := by simp
        rw [es] at hm2 hs2
        have vp : Rw.Vdl w names d p := si.va p List.mem_cons_self
        have vq : Rw.Vdl w names d q := si.va q (List.mem_cons_of_mem _ List.mem_cons_self)
        have sp : Rw.Sol th p := si.so p List.mem_cons_self
        have sq : Rw.Sol th q := si.so q (List.mem_cons_of_mem _ List.mem_cons_self)
        have lp := thl_len p th
        refine ⟨_, _, hE, rfl, ?_⟩
        refine ⟨by rw [List.length_map]; omega, lcFM (pIn (Rw.thl th q)) id (fun r hr Pt Pf p1 p2 => ?_) ?_⟩
        · obtain ⟨s, hs, rfl⟩ := List.mem_map.mp hr
          have e : pIn (Rw.thl th q) (.str s) = inR (.str s) ((Rw.thl th q).map R.str) := by rw [in_strs]; rfl
          exact ⟨_, _, hE, rfl, _, rfl, rfl, flat_strs (Rw.thl th q), fun y => p1 (e.trans y), fun y => p2 (e.trans y)⟩
        rw [inList]
        have er : (Rw.iff u p q).r = .tup ([.str "if", .str u] ++ [.tup (Rw.rl p), .tup (Rw.rl q)]) := by rw [Rw.r]; rfl
        have ec : (Rw.iff u p q).ct = 1 + (Rw.ctl p + Rw.ctl q) := by rw [Rw.ct]
        have new := st.add (M3 := M') (m3 := m2) (.iff u p q) af bf hfM (by rw [Rw.Vd]; exact ⟨ths u hu, by have := of_decide_eq_true e6; omega, vp, vq⟩) (by rw [Rw.So, ← hth]; exact ⟨hu, sp, sq⟩) si.mo (by rw [ec]; omega) si.A (by rw [ec]; omega) si.B si.fr
        rw [er] at new
        refine ⟨⟨_, si.F⟩, _, hW, ?_⟩
        refine ⟨lenLe (k := 2) (j := 2) rfl rfl (by decide), _, si.F, lx, xs ++ [.iff u p q], _, kvs2, _, _, _, _, _, _, _, _, _, _, _, _, _, _, rfl, ?_, new⟩
        rw [thl_app, Rw.thl, Rw.thl, Rw.th, ← hth]
    case C =>
      have d2 : 1 < d + 1 := by have := of_decide_eq_true e4; omega
      refine ⟨a, 13, _, rfl, A2, by omega, divOk (by decide) (by decide), fun v v0 v1 => ?_⟩
      obtain ⟨z, z0, z1, zr⟩ : ∃ z : Int, 0 ≤ z ∧ z ≤ 12 ∧ atI [R.int 12, R.int v, R.int 5] (((d + 1 : Nat) : Int) % 3) = some (.int z) := by
        have hd : d = 1 ∨ d = 2 ∨ d = 3 := by omega
        rcases hd with hd | hd | hd <;> rw [hd]
        · exact ⟨5, by decide, by decide, rfl⟩
        · exact ⟨12, by decide, by decide, rfl⟩
        · exact ⟨v, v0, by omega, rfl⟩
      refine ⟨(by decide : (0 : Int) < 3), _, _, rfl, zr, ?_⟩
      refine ⟨a, 6, _, rfl, updM_same, by omega, divOk (by decide) (by decide), fun j j0 j1 => ?_⟩
      rw [updM_updM]
      refine pickL (n := 6) (show LsOf _ (.lst [.int 0, .int 1, .int 2, .int 3, .int 2, .int z]) _ from rfl) rfl j0 j1 fun r hr => ?_
      obtain ⟨k, hk, rfl⟩ : ∃ k : Nat, k ≤ 12 ∧ r = .int (k : Int) := by
        simp only [List.mem_cons, List.not_mem_nil, or_false] at hr
        rcases hr with rfl | rfl | rfl | rfl | rfl | rfl
        · exact ⟨0, by decide, rfl⟩
        · exact ⟨1, by decide, rfl⟩
        · exact ⟨2, by decide, rfl⟩
        · exact ⟨3, by decide, rfl⟩
        · exact ⟨2, by decide, rfl⟩
        · exact ⟨z.toNat, by omega, by congr 1; omega⟩
      clear hr j0 j1
      refine ⟨kvs1, keep_ne B2 ab.symm, by have := mo1.ln.1; omega, ?_⟩
      refine ⟨a, 8, _, rfl, keep_ne updM_same ab, by omega, divOk (by decide) (by decide), fun q q0 q1 => ?_⟩
      have A3 : updM (updM (updM M2 a (.dr (m + 1 + 1 + 1))) b (.dK (putR kvs1 (.inr "there") (.lst (th.map R.str))))) a (.dr (m + 1 + 1 + 1 + 1)) a = some (.dr (m + 1 + 1 + 1 + 1)) := updM_same
      have B3 : updM (updM (updM M2 a (.dr (m + 1 + 1 + 1))) b (.dK (putR kvs1 (.inr "there") (.lst (th.map R.str))))) a (.dr (m + 1 + 1 + 1 + 1)) b = some (.dK (putR kvs1 (.inr "there") (.lst (th.map R.str)))) := by rw [updM_ne ab.symm, updM_same]
      have F3 : updM (updM (updM M2 a (.dr (m + 1 + 1 + 1))) b (.dK (putR kvs1 (.inr "there") (.lst (th.map R.str))))) a (.dr (m + 1 + 1 + 1 + 1)) f = some (.lst (Rw.rl xs)) := by rw [updM_ne af.symm, updM_ne bf.symm, updM_ne af.symm]; exact F2
      have fr3 : ∀ c u, c ≠ a → c ≠ b → M c = some u → updM (updM (updM M2 a (.dr (m + 1 + 1 + 1))) b (.dK (putR kvs1 (.inr "there") (.lst (th.map R.str))))) a (.dr (m + 1 + 1 + 1 + 1)) c = some u := fun c u n1 n2 e => by rw [updM_ne n1, updM_ne n2, updM_ne n1]; exact fr2 c u n1 n2 e
      generalize updM (updM (updM M2 a (.dr (m + 1 + 1 + 1))) b (.dK (putR kvs1 (.inr "there") (.lst (th.map R.str))))) a (.dr (m + 1 + 1 + 1 + 1)) = M3 at A3 B3 F3 fr3 ⊢
      have mo2 := mo1.there (v := .lst (th.map R.str))
      have add : ∀ (p : List Rw) (kvs3 : List (Key × R)) (m3 l3 : Nat) (M4 : MH), Rw.Vdl w names d p → Rw.Sol th p → Rw.ctl p + l3 = lft - 1 → MadeOk w names l3 kvs3 → m3 ≤ m + 1 + 1 + 1 + 1 + 1 + 16 * Rw.ctl p → M4 a = some (.dr m3) → M4 b = some (.dK kvs3) → (∀ c u, c ≠ a → c ≠ b → M3 c = some u → M4 c = some u) →
          RowSt M a b f n w l (d + 1) names known (xs ++ [.rnd k p]) kvs3 m3 l3 (updM M4 f (.lst (Rw.rl xs ++ [.tup [.str "round", .int (k : Int), .tup (Rw.rl p)]]))) := fun p kvs3 m3 l3 M4 v1 v2 v3 v4 v6 v7 v8 v9 => by
        have er : (Rw.rnd k p).r = .tup [.str "round", .int (k : Int), .tup (Rw.rl p)] := by rw [Rw.r]
        have ec : (Rw.rnd k p).ct = 1 + Rw.ctl p := by rw [Rw.ct]
        have new := st.add (M3 := M4) (m3 := m3) (.rnd k p) af bf hfM (by rw [Rw.Vd]; exact ⟨hk, by omega, v1⟩) (by rw [Rw.So, ← hth]; exact v2) v4 (by rw [ec]; omega) v7 (by rw [ec]; omega) v8 (fun c u n1 n2 e => v9 c u n1 n2 (fr3 c u n1 n2 e))
        rw [er] at new
        exact new
      refine ⟨fun _ => ?_, fun _ => ?_⟩
      · refine ⟨a, b, m + 1 + 1 + 1 + 1, w, lft - 1, names, th, _, (by show [R.o a, R.o b, _, R.int (((d + 1 : Nat) : Int) - 1)] = _; rw [show ((d + 1 : Nat) : Int) - 1 = (d : Int) by omega]), by omega, by omega, A3, by omega, B3, mo2, w1, w2, by omega, by omega, hn1, hn2, hnm, ths, fun p kvs3 m3 l3 M4 v1 v2 v3 v4 v5 v6 v7 v8 v9 => ?_⟩
        have F4 := v9 f _ af.symm bf.symm F3
        have new := add p kvs3 m3 l3 M4 v1 v2 v3 v4 v6 v7 v8 v9
        refine ⟨⟨_, F4⟩, _, F4, lx, fun k0 => ⟨_, _, keep_ne v8 bf, v5, xs ++ [.rnd k p], _, kvs3, _, _, _, _, _, _, _, _, _, _, _, _, _, _, rfl, ?_, new⟩, fun k0 => ⟨xs ++ [.rnd k p], _, kvs3, _, _, _, _, _, _, _, _, _, _, _, _, _, _, rfl, ?_, new⟩⟩
        · have : 0 < k := by have := of_decide_eq_true k0; omega
          rw [thl_app, Rw.thl, Rw.thl, Rw.th, ← hth, if_pos this]
        · have : ¬ 0 < k := by have := of_decide_eq_false k0; omega
          rw [thl_app, Rw.thl, Rw.thl, Rw.th, ← hth, if_neg this]
      · have new := add [] _ _ (lft - 1) M3 True.intro True.intro (Nat.zero_add _) mo2 (by omega) A3 B3 fun c u _ _ e => e
        refine ⟨⟨_, F3⟩, _, F3, lx, fun k0 => ⟨_, _, keep_ne B3 bf, there_put, xs ++ [.rnd k []], _, _, _, _, _, _, _, _, _, _, _, _, _, _, _, _, rfl, ?_, new⟩, fun k0 => ⟨xs ++ [.rnd k []], _, _, _, _, _, _, _, _, _, _, _, _, _, _, _, _, rfl, ?_, new⟩⟩
        · have : 0 < k := by have := of_decide_eq_true k0; omega
          rw [thl_app, Rw.thl, Rw.thl, Rw.th, ← hth, if_pos this, Rw.thl]
        · have : ¬ 0 < k := by have := of_decide_eq_false k0; omega
          rw [thl_app, Rw.thl, Rw.thl, Rw.th, ← hth, if_neg this]
    all_goals
      refine ⟨_, _, .inl (pyStrs th), .inl rfl, shapedStrs th thn, rfl, ?_⟩
      rw [eqvStrs hte]
      refine ⟨fun e7 => ⟨a, 2, _, rfl, A2, by omega, divOk (by decide) (by decide), fun c c0 c1 => ⟨fun t1 => ?_, fun t2 => ?_⟩⟩, fun e7 => ⟨nt, fun t3 => ?_⟩⟩
    all_goals
      obtain ⟨m3, hm3, hm4⟩ : ∃ m3, m3 = m + 1 + 1 ∧ m3 ≤ m + 2 := ⟨_, rfl, by omega⟩
    all_goals first
      | (have d1 := t1
         have h0 := thp (by cases te with | false => rfl | true => cases e7)
         rw [← hm3]
         have A3 : updM M2 a (.dr m3) a = some (.dr m3) := updM_same
         have B3 := keep_ne (x := .dr m3) B2 ab.symm
         have F3 := keep_ne (x := .dr m3) F2 af.symm
         have fr3 : ∀ c u, c ≠ a → c ≠ b → M c = some u → updM M2 a (.dr m3) c = some u := fun c u n1 n2 e => by rw [updM_ne n1]; exact fr2 c u n1 n2 e
         generalize updM M2 a (.dr m3) = M3 at A3 B3 F3 fr3 ⊢)
      | (have d1 := t2
         rw [← hm3]
         have A3 : updM M2 a (.dr m3) a = some (.dr m3) := updM_same
         have B3 := keep_ne (x := .dr m3) B2 ab.symm
         have F3 := keep_ne (x := .dr m3) F2 af.symm
         have fr3 : ∀ c u, c ≠ a → c ≠ b → M c = some u → updM M2 a (.dr m3) c = some u := fun c u n1 n2 e => by rw [updM_ne n1]; exact fr2 c u n1 n2 e
         generalize updM M2 a (.dr m3) = M3 at A3 B3 F3 fr3 ⊢
         refine ⟨_, _, B3, mo1.nm, ?_⟩)
      | (have d1 := t3
         clear hm3 hm4 m3
         obtain ⟨m3, hm3, hm4⟩ : ∃ m3, m3 = m + 1 ∧ m3 ≤ m + 2 := ⟨_, rfl, by omega⟩
         have A3 := A2
         have B3 := B2
         have F3 := F2
         have fr3 := fr2
         rw [← hm3] at A3
         clear A2 B2 F2 fr2
         generalize M2 = M3 at A3 B3 F3 fr3 ⊢
         refine ⟨_, _, B3, mo1.nm, ?_⟩)
    all_goals
      refine ⟨a, _, m3, rfl, A3, by omega, divOk (by rw [List.length_map]; omega) (by rw [List.length_map]; omega), fun j j0 j1 => ?_⟩
      obtain ⟨r, hr2, hm2⟩ := atI_some j0 j1
      obtain ⟨u, hu, rfl⟩ := List.mem_map.mp hm2
      have hun : u ∈ names := by first | exact ths u hu | exact hu
      refine ⟨_, _, rfl, hr2, ?_⟩
      refine ⟨⟨_, keep_ne F3 af.symm⟩, _, _, keep_ne B3 ab.symm, mo1.wd, ?_⟩
      refine ⟨a, _, w, th, rfl, updM_same, by omega, w1, w2, by omega, thn, fun e m4 he hm5 => ?_⟩
      rw [updM_updM]
      refine ⟨_, keep_ne F3 af.symm, lx, ?_⟩
      have er : (Rw.set u e).r = .tup [.str "set", .str u, e.r] := by rw [Rw.r]
      have ec : (Rw.set u e).ct = 1 := by rw [Rw.ct]
      have new := st.add (M3 := updM M3 a (.dr m4)) (m3 := m4) (.set u e) af bf hfM (by rw [Rw.Vd]; exact ⟨hun, he.ok, he.num, he.mv, fun b hb => ths b (he.ns b hb)⟩) (by rw [Rw.So, ← hth]; exact he.ns) mo1 (by rw [ec]; omega) updM_same (by rw [ec]; omega) (keep_ne B3 ab.symm) fun c u n1 n2 e => by rw [updM_ne n1]; exact fr3 c u n1 n2 e
      rw [er] at new
      refine addNew ?_ (by omega)
      refine ⟨xs ++ [.set u e], _, kvs1, _, _, _, _, _, _, _, _, _, _, _, _, _, _, rfl, ?_, new⟩
      rw [thl_app, Rw.thl, Rw.thl, Rw.th, ← hth]
  · rintro g' M' ⟨xs, th, kvs', m, lft, s6, s7, s8, s9, s10, s11, s12, s13, s14, s15, s16, s17, rfl, rfl, st⟩
    refine ⟨kvs', st.B, by have := st.mo.ln.1; omega, ?_⟩
    refine ⟨_, keep_ne st.F bf.symm, _, Sub.rfl', hQ xs _ m lft _ st.va st.so st.sum st.mo.there there_put st.mb (keep_ne st.A ab) updM_same fun c u n1 n2 e => by rw [updM_ne n2]; exact st.fr c u n1 n2 e⟩
end
section
variable {P : Program} {w : World} {K : PySem.W.Frag} {mg : Str → Option Value} {base : Heap}
def spProgram : DSp := fun rs M Q _ => ∃ (a : Addr) (n w k most : Nat), rs = [.o a, .int (w : Int), .int (k : Int), .int (most : Int)] ∧ M a = some (.dr n) ∧ n < 2 ^ 40 ∧ 1 ≤ w ∧ w ≤ 12 ∧ k ≤ 4 ∧ 4 ≤ most ∧ most ≤ 60 ∧
  ∀ (names ns : List Str) (xs : List Rw) (m : Nat) (M' : MH), PgOk w names ns xs → Rw.Vdl w names 4 xs → Rw.stl xs ≤ 1502 → Rw.ctl xs ≤ most → ns.length = k → m ≤ n + 2000 → Sub (updM M a (.dr m)) M' → Q (progR w ns xs) M'
theorem ok__law_program (T : Txt w K mg) : DFn P w K mg base 10 (He.ga K "_law_program") T.d__law_program ["draw", "wide", "inputs", "most"] (spProgram) := by
  refine dfn_of T.F__law_program sc__law_program (fun cdv A outer s H E hr tk hp => ⟨_, (dss_cons (ds_set 4 sc__law_program.nd (de_call (ok__law_words T) (hr.mono (by decide)) T.g__law_words T.F__law_words.kp (b__law_words T) tk (da_cons (de_var 0) (da_cons de_int (da_cons de_int da_nil)))))
    (dss_cons (ds_set 5 sc__law_program.nd (de_disp (dps_cons de_str (de_var 1) (dps_cons de_str (de_op op_sub sim_I0 (de_var 3) de_int) (dps_cons de_str (de_var 4) dps_nil)))))
    (dss_cons (ds_set 6 sc__law_program.nd (de_call (ok__law_rows T 4) (hr.mono (by decide)) T.g__law_rows T.F__law_rows.kp (b__law_rows T) tk (da_cons (de_var 0) (da_cons (de_var 5) (da_cons (de_slice (de_var 4) do_none (do_some (de_var 2))) (da_cons de_int da_nil))))))
    (dss_cons (ds_set 6 sc__law_program.nd (de_if (dt_cmp op_ltU sim_lt (de_call (ok__law_steps T 4) (hr.mono (by decide)) T.g__law_steps T.F__law_steps.kp (b__law_steps T) tk (da_cons (de_var 6) da_nil)) de_int) (de_var 6) (de_call (ok__law_fewer T 4) (hr.mono (by decide)) T.g__law_fewer T.F__law_fewer.kp (b__law_fewer T) tk (da_cons (de_var 6) da_nil))))
    (dss_cons (ds_set 7 sc__law_program.nd (de_dget hr.hu (de_var 5) de_str))
    (dss_cons (ds_setLc (i := 8) (own := [("k", 9)]) rfl sc__law_program.nd (di_range1 T.n_range (de_op op_addU sim_add de_int (de_call (ok__law_next T) (hr.mono (by decide)) T.g__law_next T.F__law_next.kp (b__law_next T) tk (da_cons (de_var 0) (da_cons de_int da_nil))))) (blkOk_by (by show blkC ["draw", "wide", "inputs", "most", "names", "made", "rows", "there", "ends", "k"] (defScope s__law_program) _ _ = true; decide +kernel)) (simc1 (by decide)) (fun _ _ _ _ _ => (pg_name (i := 9) sc__law_program.nd rfl (Or.inl rfl))) (fun _ _ _ _ _ => (dts_one (dt_cmp (op_neU hr.hu) sim_ne (de_var 7) (de_lst da_nil)))) (fun _ _ _ _ _ => (de_tup (da_cons de_str (da_cons (de_ix (de_var 7) (de_call (ok__law_next T) (hr.mono (by decide)) T.g__law_next T.F__law_next.kp (b__law_next T) takes0 (da_cons (de_var 0) (da_cons (de_callB call_lenU sc_len T.n_len (da_cons (de_var 7) da_nil)) da_nil)))) da_nil)))))
    (dss_cons (ds_ret (de_tup (da_cons (de_var 1) (da_cons (de_callTy call_tupU sc_tup T.n_tuple (da_cons (de_slice (de_var 4) do_none (do_some (de_var 2))) da_nil)) (da_cons (de_op op_addU sim_add (de_var 6) (de_callTy call_tupU sc_tup T.n_tuple (da_cons (de_var 8) da_nil))) da_nil)))))
    dss_nil))))))), fun rs M Q xw h hl => ?_⟩)
  obtain ⟨a, n, w, k, most, rfl, hA, hn, w1, w2, k4, mo1, mo2, hQ⟩ := h
  have sl : sizeLine = 16777216 := by decide
  refine ⟨a, n, rfl, hA, by omega, fun names m1 M1 hl hnm hnd hm1 s1 => ?_⟩
  have A1 : M1 a = some (.dr m1) := s1 _ _ updM_same
  intro b hb
  have ab : a ≠ b := ne_new A1 hb
  have ek : (names.map R.str).take k = (names.take k).map R.str := List.map_take.symm
  have lt : (names.take k).length = k := by rw [List.length_take]; omega
  refine ⟨_, rfl, ?_⟩
  rw [cutTake (by rw [List.length_map]; omega), ek]
  refine ⟨a, b, m1, w, most - 3, names, names.take k, _, rfl, by decide, by decide, keep_ne A1 ab, by omega, updM_same, ⟨rfl, ?_, rfl, (by decide : 3 ≤ 4), .inr (by decide : 3 ≤ 3)⟩, w1, w2, by omega, by omega, by omega, by omega, hnm, fun s hs => List.mem_of_mem_take hs, fun xs kvs' m2 l' M2 v1 v2 v3 v4 v5 v6 v7 v8 v9 => ?_⟩
  · show some (R.int ((most : Int) - 3)) = _
    congr 2
    omega
  obtain ⟨th, hth⟩ : ∃ th, th = Rw.thl (names.take k) xs := ⟨_, rfl⟩
  rw [← hth] at v5
  have len_le : xs.length ≤ Rw.ctl xs := len_ctl xs
  have m2b : m2 ≤ m1 + 1 + 16 * 57 := by omega
  refine ⟨w, names, xs, rfl, by decide, v1, fun t => ?K1, fun t => ?K2⟩
  case' K1 =>
    have C : Rw.Vdl w names 4 xs ∧ Rw.Sol (names.take k) xs ∧ Rw.ctl xs + l' = most - 3 ∧ th = Rw.thl (names.take k) xs ∧ Rw.stl xs ≤ 1500 := ⟨v1, v2, v3, hth, by have := of_decide_eq_true t; omega⟩
    have A3 := v7
    have B3 := v8
    have S3 : ∀ c u, c ≠ a → c ≠ b → M1 c = some u → M2 c = some u := fun c u n1 n2 e => v9 c u n1 n2 (keep_ne e n2)
    clear v1 v2 v3 v7 v8 v9 hth t
    have len0 := len_ctl xs
    generalize xs = ys at C len0 ⊢
    generalize M2 = M3 at A3 B3 S3 ⊢
  case' K2 =>
    refine ⟨w, names, xs, rfl, by decide, v1, by omega, fun x hx => by have := ct_mem hx; omega, fun M3 s3 => ?_⟩
    have C : Rw.Vdl w names 4 (Rw.fewl xs) ∧ Rw.Sol (names.take k) (Rw.fewl xs) ∧ Rw.ctl (Rw.fewl xs) + l' = most - 3 ∧ th = Rw.thl (names.take k) (Rw.fewl xs) ∧ Rw.stl (Rw.fewl xs) ≤ 1500 :=
      ⟨vdl_few xs 4 v1, sol_few xs _ v2, by rw [ctl_few]; exact v3, by rw [thl_few]; exact hth, by have := stl_few (w := w) (ns := names) xs 3 v1; have e : 2 ^ 3 = 8 := rfl; omega⟩
    have A3 := s3 _ _ v7
    have B3 := s3 _ _ v8
    have S3 : ∀ c u, c ≠ a → c ≠ b → M1 c = some u → M3 c = some u := fun c u n1 n2 e => s3 _ _ (v9 c u n1 n2 (keep_ne e n2))
    have lem : Rw.ctl xs ≤ 57 := by omega
    clear v1 v2 v3 v7 v8 v9 hth t s3
    have len0 := len_ctl (Rw.fewl xs)
    clear lem len_le
    generalize Rw.fewl xs = ys at C len0 ⊢
  all_goals
    obtain ⟨c1, c2, c3, c4, c5⟩ := C
    have ths : ∀ s ∈ th, s ∈ names := by rw [c4]; exact thl_sub ys 4 _ c1 fun s hs => List.mem_of_mem_take hs
    have thn : ∀ s ∈ th, NameOk s := fun s hs => hnm s (ths s hs)
    have thl : th.length ≤ 64 := by
      have := thl_len ys (names.take k)
      rw [← c4, lt] at this
      omega
    obtain ⟨te, hte⟩ : ∃ v, th.isEmpty = v := ⟨_, rfl⟩
    refine ⟨_, _, B3, v5, ?_⟩
    refine ⟨a, 2, m2, rfl, A3, by omega, divOk (by decide) (by decide), fun c y0 y1 => ?_⟩
    refine ⟨⟨by omega, by omega⟩, (by rw [intsFrom_len]; omega), fun i acc M' => ∃ us : List Str, acc = us.map (fun u => R.tup [.str "tell", .str u]) ∧ us.length ≤ i ∧ (∀ u ∈ us, u ∈ th) ∧ ∃ m', m' ≤ m2 + 1 + i ∧ M' = updM M3 a (.dr m'), ⟨[], rfl, Nat.le_refl _, fun u hu => absurd hu List.not_mem_nil, _, Nat.le_refl _, rfl⟩, ?_, ?_⟩
    · rintro i r acc M' hr _ ⟨us, rfl, h1, h2, m', h3, rfl⟩
      have hi := (intsFrom_get hr).1
      refine ⟨_, _, .inl (pyStrs th), .inl rfl, shapedStrs th thn, rfl, ?_⟩
      rw [eqvStrs hte]
      refine ⟨fun e => ?_, fun _ => ⟨us, rfl, by omega, h2, m', by omega, rfl⟩⟩
      have h0 : 0 < th.length := by
        cases te with
        | true => cases e
        | false =>
          cases th with
          | nil => cases hte
          | cons y ys => rw [List.length_cons]; omega
      refine ⟨a, _, m', rfl, updM_same, by omega, divOk (by rw [List.length_map]; omega) (by rw [List.length_map]; omega), fun j j0 j1 => ?_⟩
      obtain ⟨r, hr2, hm2⟩ := atI_some j0 j1
      obtain ⟨u, hu, rfl⟩ := List.mem_map.mp hm2
      exact ⟨_, _, rfl, hr2, us ++ [u], by rw [List.map_append]; rfl, by rw [List.length_append]; exact Nat.succ_le_succ h1, fun v hv => (by
        rcases List.mem_append.mp hv with hv | hv
        · exact h2 v hv
        · rw [List.mem_singleton.mp hv]; exact hu), m' + 1, by omega, updM_updM⟩
    · rintro acc M' _ ⟨us, rfl, h1, h2, m', h3, rfl⟩
      rw [intsFrom_len] at h1 h3
      refine ⟨_, rfl, ?_⟩
      rw [cutTake (by rw [List.length_map]; omega), ek]
      have lu : us.length ≤ 2 := by omega
      have ly : (Rw.rl ys).length = ys.length := by rw [rl_map, List.length_map]
      refine ⟨_, rfl, _, rfl, by rw [ly, List.length_map]; omega, _, Sub.rfl', ?_⟩
      have v4 : Rw.Vdl w names 4 (ys ++ us.map Rw.tell) := (vdl_app _ _).mpr ⟨c1, vdl_tells fun u hu => ths u (h2 u hu)⟩
      have q := hQ names (names.take k) (ys ++ us.map Rw.tell) m' (updM M3 a (.dr m')) ⟨w1, w2, hnm, by omega, fun s hs => List.mem_of_mem_take hs, hnd.sublist (List.take_sublist k names), by omega, vdl_mono (d := 4) (by decide) _ v4, Nat.le_trans (trl_le _ 4 v4) (by decide), (sol_app _ _ _).mpr ⟨c2, sol_tells fun u hu => c4 ▸ h2 u hu⟩, by rw [ctl_app, ctl_tells]; omega, by rw [stl_app, stl_tells]; omega⟩ v4 (by rw [stl_app, stl_tells]; omega) (by rw [ctl_app, ctl_tells]; omega) lt (by omega) fun c u e => ?_
      · rw [progR, rl_app, rl_tells] at q
        exact q
      · by_cases z : c = a
        · rw [z, updM_same] at e ⊢; exact e
        · rw [updM_ne z] at e ⊢
          have e1 : M1 c = some u := s1 c u (by rw [updM_ne z]; exact e)
          exact S3 c u z (fun y => by rw [y] at e1; rw [show M1 b = none from hb] at e1; cases e1) e1
end
section
variable {P : Program} {w : World} {K : PySem.W.Frag} {mg : Str → Option Value} {base : Heap}
theorem none_ok5 {w : Nat} {names ns : List Str} {xs : List Rw} (p : PgOk w names ns xs) : ∀ r ∈ [R.non, .int 5, .tup [], .lst [.int (w : Int), .tup (ns.map R.str), .tup (Rw.rl xs)], .str "x", .tup [.int (w : Int), .tup (ns.map R.str)], .tup [.int 0, .tup (ns.map R.str), .tup (Rw.rl xs)]], Dt 31 r ∧ r.cnt ≤ 10000 ∧ isProgR r = false := by
  intro r hr
  have hd := prog_dt16 p.pf
  obtain ⟨_, hc, _, _⟩ := prog_dt p.pf
  have hm := fun r (h : r ∈ [R.int (w : Int), .tup (ns.map R.str), .tup (Rw.rl xs)]) => Dt.mem (show Dt (15 + 1) (.tup [R.int (w : Int), .tup (ns.map R.str), .tup (Rw.rl xs)]) from hd) h
  have hc' : 1 + (1 + ((R.tup (ns.map R.str)).cnt + ((R.tup (Rw.rl xs)).cnt + 0))) ≤ 10000 := hc
  simp only [List.mem_cons, List.not_mem_nil, or_false] at hr
  rcases hr with rfl | rfl | rfl | rfl | rfl | rfl | rfl
  · exact ⟨.non _, by decide, rfl⟩
  · exact ⟨.int _ _, by decide, rfl⟩
  · exact ⟨Dt.mono (k := 1) (Dt.tup (Nat.zero_le _) fun r hr => by cases hr) (by omega), by decide, rfl⟩
  · exact ⟨Dt.mono (k := 16) (Dt.lst (show (3 : Nat) ≤ 1000 by decide) hm) (by omega), hc', rfl⟩
  · exact ⟨.str _ (by decide +kernel) (by decide +kernel), by decide, rfl⟩
  · refine ⟨Dt.mono (k := 16) (Dt.tup (show (2 : Nat) ≤ 1000 by decide) fun r hr => hm r ?_) (by omega), ?_, rfl⟩
    · simp only [List.mem_cons, List.not_mem_nil, or_false] at hr ⊢
      rcases hr with h | h
      · exact .inl h
      · exact .inr (.inl h)
    · show 1 + (1 + ((R.tup (ns.map R.str)).cnt + 0)) ≤ 10000; omega
  · refine ⟨Dt.mono (k := 16) (Dt.tup (show (3 : Nat) ≤ 1000 by decide) fun r hr => ?_) (by omega), ?_, rfl⟩
    · rcases List.mem_cons.mp hr with rfl | hr
      · exact .int _ _
      · exact hm r (List.mem_cons_of_mem _ hr)
    · show 1 + (1 + ((R.tup (ns.map R.str)).cnt + ((R.tup (Rw.rl xs)).cnt + 0))) ≤ 10000; omega
theorem tupE {xs : List Rw} (hs : (R.tup (Rw.rl xs)).shw = true) (hc : (R.tup (Rw.rl xs)).cnt ≤ 5000) (hd : (R.tup (Rw.rl xs)).dep ≤ 40) : ∃ d, (R.tup (Rw.rl xs)).py = some d ∧ SeqAt.shaped d = true ∧ PyData.eqv d (.tuple []) = xs.isEmpty := by
  obtain ⟨d, e, _, _, _, _, sd⟩ := reprD hs (Nat.ble_eq_true_of_le hc) (Nat.ble_eq_true_of_le hd)
  refine ⟨d, e, sd, ?_⟩
  rw [R.py] at e
  obtain ⟨ds, e1, rfl⟩ := Option.map_eq_some_iff.mp e
  rw [eqvTNil]
  cases xs with
  | nil => rw [Rw.rl] at e1; cases e1; rfl
  | cons x xs =>
    rw [Rw.rl, R.pys] at e1
    cases q1 : x.r.py with
    | none => rw [q1] at e1; cases e1
    | some d1 =>
      rw [q1] at e1
      cases q2 : R.pys (Rw.rl xs) with
      | none => rw [q2] at e1; cases e1
      | some d2 => rw [q2] at e1; cases e1; rfl
def spLaw : DSp := fun rs M Q _ => ∃ ns : List Int, rs = [.scr ns] ∧ ns.length ≤ 63 ∧ ∀ M', Q (.bl true) M'
theorem ok_law (T : Txt w K mg) : DFn P w K mg base 35 (He.ga K "law") T.d_law ["script"] (spLaw) := by
  refine dfn_of T.F_law sc_law (fun cdv A outer s H E hr tk hp => ⟨_, (dss_cons (ds_set 1 sc_law.nd (de_call (ok__law_begin T) (hr.mono (by decide)) T.g__law_begin T.F__law_begin.kp (b__law_begin T) tk (da_cons (de_var 0) da_nil)))
    (dss_cons (ds_if (dt_not (dt_val (de_call (ok__law_right T) (hr.mono (by decide)) T.g__law_right T.F__law_right.kp (b__law_right T) tk (da_cons (de_var 1) (da_cons (de_call (ok__law_great T) (hr.mono (by decide)) T.g__law_great T.F__law_great.kp (b__law_great T) tk (da_cons (de_var 1) da_nil)) da_nil))))) (dss_cons (ds_ret de_bl)
    dss_nil) dss_nil)
    (dss_cons (ds_for hp rfl (di_range1 T.n_range de_int) (dg_name 2 sc_law.nd) (dss_cons (ds_set 3 sc_law.nd (de_call (ok__law_program T) (hr.mono (by decide)) T.g__law_program T.F__law_program.kp (b__law_program T) tk (da_cons (de_var 1) (da_cons (de_op op_addU sim_add de_int (de_call (ok__law_next T) (hr.mono (by decide)) T.g__law_next T.F__law_next.kp (b__law_next T) tk (da_cons (de_var 1) (da_cons de_int da_nil)))) (da_cons (de_call (ok__law_next T) (hr.mono (by decide)) T.g__law_next T.F__law_next.kp (b__law_next T) tk (da_cons (de_var 1) (da_cons de_int da_nil))) (da_cons de_int da_nil))))))
    (dss_cons (ds_set 4 sc_law.nd (de_callB (call_reprU hr) sc_repr T.n_repr (da_cons (de_var 3) da_nil)))
    (dss_cons (ds_if (DW.dt (dw_or (DW.dt (dw_and (dt_cmp (op_neU hr.hu) sim_ne (de_ix (de_var 3) de_int) (de_tup da_nil)) (dw_and1 (dt_not (dt_val (de_call (ok__law_right T) (hr.mono (by decide)) T.g__law_right T.F__law_right.kp (b__law_right T) tk (da_cons (de_var 1) (da_cons (de_var 3) da_nil)))))))) (dw_or1 (dt_cmp (op_neU hr.hu) sim_ne (de_callB (call_reprU hr) sc_repr T.n_repr (da_cons (de_var 3) da_nil)) (de_var 4))))) (dss_cons (ds_ret de_bl)
    dss_nil) dss_nil)
    (dss_cons (ds_set 5 sc_law.nd (de_ix (de_lst (da_cons de_non (da_cons de_int (da_cons (de_tup da_nil) (da_cons (de_callTy call_lstU sc_lst T.n_list (da_cons (de_var 3) da_nil)) (da_cons de_str (da_cons (de_slice (de_var 3) do_none (do_some de_int)) (da_cons (de_op op_addU sim_add (de_tup (da_cons de_int da_nil)) (de_slice (de_var 3) (do_some de_int) do_none)) da_nil)))))))) (de_call (ok__law_next T) (hr.mono (by decide)) T.g__law_next T.F__law_next.kp (b__law_next T) tk (da_cons (de_var 1) (da_cons de_int da_nil)))))
    (dss_cons (ds_set 6 sc_law.nd (de_op op_addU sim_add (de_slice (de_var 3) do_none (do_some de_int)) (de_tup (da_cons (de_op op_addU sim_add (de_ix (de_var 3) de_int) (de_tup (da_cons (de_tup (da_cons de_str (da_cons (de_call (ok__law_nobody T) (hr.mono (by decide)) T.g__law_nobody T.F__law_nobody.kp (b__law_nobody T) tk (da_cons (de_var 3) da_nil)) da_nil))) da_nil))) da_nil))))
    (dss_cons (ds_set 7 sc_law.nd (de_callB call_lenU sc_len T.n_len (da_cons (de_call (ok__law_flat T 6) (hr.mono (by decide)) T.g__law_flat T.F__law_flat.kp (b__law_flat T) tk (da_cons (de_ix (de_var 3) de_int) da_nil)) da_nil)))
    (dss_cons (ds_set 8 sc_law.nd (de_ix (de_lst (da_cons de_non (da_cons (de_neg de_int) (da_cons (de_var 7) (da_cons de_bl (da_cons de_str (da_cons (de_tup (da_cons de_int da_nil)) (da_cons (de_lst (da_cons de_int da_nil)) (da_cons (de_op op_pow sim_IC de_int de_int) da_nil))))))))) (de_call (ok__law_next T) (hr.mono (by decide)) T.g__law_next T.F__law_next.kp (b__law_next T) tk (da_cons (de_var 1) (da_cons de_int da_nil)))))
    (dss_cons (ds_for hp rfl (di_range1 T.n_range de_int) (dg_name 9 sc_law.nd) (dss_cons (ds_if (DW.dt (dw_or (dt_cmp (op_neU hr.hu) sim_ne (de_call (ok__law_said T) (hr.mono (by decide)) T.g__law_said T.F__law_said.kp (b__law_said T) tk (da_cons (de_var 9) (da_cons (de_var 5) (da_cons (de_var 8) da_nil)))) (de_lst (da_cons de_str da_nil))) (dw_or1 (dt_cmp (op_neU hr.hu) sim_ne (de_call (ok__law_said T) (hr.mono (by decide)) T.g__law_said T.F__law_said.kp (b__law_said T) tk (da_cons (de_var 9) (da_cons (de_var 6) (da_cons (de_var 8) da_nil)))) (de_lst (da_cons de_str da_nil)))))) (dss_cons (ds_ret de_bl)
    dss_nil) dss_nil)
    dss_nil))
    (dss_cons (ds_if (DW.dt (dw_or (dt_cmp (op_neU hr.hu) sim_ne (de_call (ok__law_said T) (hr.mono (by decide)) T.g__law_said T.F__law_said.kp (b__law_said T) tk (da_cons de_int (da_cons (de_var 3) (da_cons (de_var 8) da_nil)))) (de_lst (da_cons de_str da_nil))) (dw_or1 (dt_cmp (op_neU hr.hu) sim_ne (de_call (ok__law_said T) (hr.mono (by decide)) T.g__law_said T.F__law_said.kp (b__law_said T) tk (da_cons de_int (da_cons (de_var 3) (da_cons (de_var 8) da_nil)))) (de_lst da_nil))))) (dss_cons (ds_ret de_bl)
    dss_nil) dss_nil)
    (dss_cons (ds_set 10 sc_law.nd (de_call (ok__law_twin T 17) (hr.mono (by decide)) T.g__law_twin T.F__law_twin.kp (b__law_twin T) tk (da_cons (de_var 3) da_nil)))
    (dss_cons (ds_for hp rfl (di_range1 T.n_range de_int) (dg_name 9 sc_law.nd) (dss_cons (ds_if (DW.dt (dw_and (dt_cmp (op_neU hr.hu) sim_ne (de_callB (call_reprU hr) sc_repr T.n_repr (da_cons (de_var 10) da_nil)) (de_callB (call_reprU hr) sc_repr T.n_repr (da_cons (de_var 3) da_nil))) (dw_and1 (dt_cmp (op_neU hr.hu) sim_ne (de_call (ok__law_said T) (hr.mono (by decide)) T.g__law_said T.F__law_said.kp (b__law_said T) tk (da_cons (de_var 9) (da_cons (de_var 10) (da_cons de_int da_nil)))) (de_lst (da_cons de_str da_nil)))))) (dss_cons (ds_ret de_bl)
    dss_nil) dss_nil)
    dss_nil))
    (dss_cons (ds_if (DW.dt (dw_and (dt_cmp op_gt sim_B0 (de_var 7) de_int) (dw_and1 (DW.dt (dw_or (dt_cmp (op_neU hr.hu) sim_ne (de_call (ok__law_said T) (hr.mono (by decide)) T.g__law_said T.F__law_said.kp (b__law_said T) tk (da_cons de_int (da_cons (de_var 3) (da_cons de_int da_nil)))) (de_lst da_nil)) (dw_or1 (dt_cmp (op_neU hr.hu) sim_ne (de_call (ok__law_said T) (hr.mono (by decide)) T.g__law_said T.F__law_said.kp (b__law_said T) tk (da_cons de_int (da_cons (de_var 3) (da_cons de_bl da_nil)))) (de_lst (da_cons de_str da_nil))))))))) (dss_cons (ds_ret de_bl)
    dss_nil) dss_nil)
    dss_nil)))))))))))))
    (dss_cons (ds_ret de_bl)
    dss_nil)))), fun rs M Q xw h hl => ?_⟩)
  obtain ⟨sc, rfl, hl, hQ⟩ := h
  have sl : sizeLine = 16777216 := by decide
  refine ⟨sc, rfl, by omega, fun a ha => ?_⟩
  refine ⟨a, 0, rfl, updM_same, by decide, fun j M0 j6 s0 => ?_⟩
  obtain ⟨gp, gw, gc⟩ := gr_pf j6
  refine ⟨a, 1, 3, _, [], grx j, rfl, s0 _ _ updM_same, by decide, gp, gw, by omega, by rw [gc]; decide, fun M1 s1 => ⟨noT rfl, fun _ => ?_⟩⟩
  refine ⟨⟨by decide, by decide⟩, fun i g' M' => ∃ s2 s3 s4 s5 s6 s7 s8 s9 s10 : Option R, g' = [some (.scr sc), some (.o a), s2, s3, s4, s5, s6, s7, s8, s9, s10] ∧ ∃ n, M' a = some (.dr n) ∧ n ≤ 3 + 5000 * i,
    ⟨_, _, _, _, _, _, _, _, _, rfl, _, s1 _ _ updM_same, Nat.le_refl _⟩, ?_, ?_⟩
  · rintro i r g' M' hr ⟨s2, s3, s4, s5, s6, s7, s8, s9, s10, rfl, n, hn, hni⟩
    obtain ⟨hi, rfl⟩ := intsFrom_get hr
    refine ⟨a, 12, n, rfl, hn, by omega, divOk (by decide) (by decide), fun x x0 x1 => ?_⟩
    obtain ⟨x, rfl⟩ := Int.eq_ofNat_of_zero_le x0
    refine ⟨a, 5, _, rfl, updM_same, by omega, divOk (by decide) (by decide), fun y y0 y1 => ?_⟩
    obtain ⟨y, rfl⟩ := Int.eq_ofNat_of_zero_le y0
    rw [updM_updM]
    refine ⟨a, _, 1 + x, y, 30, by rw [show (((1 + x : Nat) : Int)) = 1 + (x : Int) by omega]; rfl, updM_same, by omega, by omega, by omega, by omega, by decide, by decide, fun names ns xs m1 M1 p v4 _ hct hk hm1 s1 => ?_⟩
    rw [updM_updM] at s1
    have pct := p.ct
    have A1 : M1 a = some (.dr m1) := s1 _ _ updM_same
    obtain ⟨w1, w2, ps, pd⟩ := prog_dt p.pf
    have pc : (progR (1 + x) ns xs).cnt ≤ 5000 := by have := (prog_shw p).2.1; omega
    obtain ⟨D, e, d1, d2, d3, d4, sd⟩ := reprD ps (Nat.ble_eq_true_of_le pc) (Nat.ble_eq_true_of_le pd)
    obtain ⟨r1, r2, r3⟩ := rl_shw p.w2 p.nm xs 6 p.vd
    obtain ⟨Dr, er, sr, qr⟩ := tupE (xs := xs) r1 (by show 1 + _ ≤ 5000; omega) (by show 1 + _ ≤ 40; omega)
    refine ⟨D, .inl e, d1, d2, d3, d4, ⟨_, .inl rfl⟩, ?_⟩
    refine (fun (rest : ∀ (M2 : MH) (m2 : Nat), M2 a = some (.dr m2) → m2 ≤ m1 + 2 → DEnds.nx _ [some (.scr sc), some (.o a), some (.int (0 + (i : Int))), some (progR (1 + x) ns xs), some (.str D.shown), s5, s6, s7, s8, s9, s10] M2) => ⟨_, rfl, Dr, .tuple [], .inl er, .inl rfl, sr, rfl, fun z => ?A, fun z => ⟨noT rfl, fun _ => ⟨D, .inl e, d1, d2, d3, d4, ⟨_, .inl rfl⟩, fun e => noNe e, fun _ => nxG rfl (rest M1 m1 A1 (by omega))⟩⟩⟩) ?R
    case A =>
      have z' : (!PyData.eqv Dr (.tuple [])) = true := z
      rw [qr] at z'
      have c1 : 1 ≤ Rw.ctl xs := by
        cases xs with
        | nil => cases z'
        | cons y ys => rw [Rw.ctl]; have := ct_pos y; omega
      have pnl := p.nl
      refine ⟨a, m1, 1 + x, names, ns, xs, rfl, A1, by omega, p.pf, p.wrong, c1, by omega, fun M2 s2 => ⟨noT rfl, fun _ => ?_⟩⟩
      refine ⟨D, .inl e, d1, d2, d3, d4, ⟨_, .inl rfl⟩, fun e => noNe e, fun _ => ?_⟩
      exact nxG rfl (rest M2 (m1 + 2) (s2 _ _ updM_same) (by omega))
    case R =>
      intro M2 m2 A2 hm2
      refine ⟨_, rfl, (show (3 : Nat) ≤ 16777216 by decide), ?_⟩
      refine ⟨a, 7, m2, rfl, A2, by omega, divOk (by decide) (by decide), fun u u0 u1 => ?_⟩
      obtain ⟨r, er, mr⟩ := atI_some (xs := [R.non, .int 5, .tup [], .lst [.int ((1 + x : Nat) : Int), .tup (ns.map R.str), .tup (Rw.rl xs)], .str "x", .tup [.int ((1 + x : Nat) : Int), .tup (ns.map R.str)], .tup [.int 0, .tup (ns.map R.str), .tup (Rw.rl xs)]]) u0 u1
      obtain ⟨n1, n2, n3⟩ := none_ok5 p r mr
      refine ⟨_, r, rfl, er, ?_⟩
      refine ⟨_, rfl, _, names, ns, xs, rfl, p, fun nm M5 k1 k2 k3 s5 => ?_⟩
      have lxs := xs_len xs
      have lr : (Rw.rl xs).length = xs.length := by rw [rl_map, List.length_map]
      refine ⟨by show _ + 1 ≤ _; omega, (show (3 : Nat) ≤ 16777216 by decide), ?_⟩
      obtain ⟨lp, lw⟩ := lone_ok p v4 (by omega) (nob_ok k1) k3
      have el : R.tup (cutR [R.int ((1 + x : Nat) : Int), .tup (ns.map R.str), .tup (Rw.rl xs)] none (some 2) ++ [.tup (Rw.rl xs ++ [.tup [.str "tell", .str nm]])]) = progR (1 + x) ns (xs ++ [.tell nm]) := by
        rw [progR, rl_app, Rw.rl, Rw.rl, Rw.r]; rfl
      rw [el]
      have A5 : M5 a = some (.dr (m2 + 1)) := s5 _ _ updM_same
      refine ⟨_, rfl, _, names, xs, rfl, by decide, p.vd, by omega, fun M6 s6 => ?_⟩
      have A6 : M6 a = some (.dr (m2 + 1)) := s6 _ _ A5
      refine ⟨⟨by decide, by decide, by decide⟩, ?_⟩
      refine ⟨a, 8, _, rfl, A6, by omega, divOk (by decide) (by decide), fun v v0 v1 => ?_⟩
      obtain ⟨q, eq, mq⟩ := atI_some (xs := [R.non, .int (-1), .int (((Rw.all xs).length : Nat) : Int), .bl true, .str "0", .tup [.int 0], .lst [.int 0], .int (10 ^ 30)]) v0 v1
      rw [all_len] at mq
      obtain ⟨b1, b2⟩ := place_ok pct q mq
      refine ⟨_, q, rfl, eq, ?_⟩
      have sw : ∀ s ∈ (["program", "unsound", "place"] : List Str), (R.lst [.str s]).shw = true := by decide +kernel
      obtain ⟨E1, g1, _, _, _, _, c1⟩ := reprD (sw "program" (by decide)) rfl rfl
      obtain ⟨E2, g2, _, _, _, _, c2⟩ := reprD (sw "unsound" (by decide)) rfl rfl
      obtain ⟨E3, g3, _, _, _, _, c3⟩ := reprD (sw "place" (by decide)) rfl rfl
      have sh0 : (R.lst []).shw = true := rfl
      obtain ⟨E0, g0, _, _, _, _, c0⟩ := reprD sh0 rfl rfl
      obtain ⟨l1, l2, _, _⟩ := prog_dt lp
      obtain ⟨h1, h2, h3⟩ := tw_shw _ ps
      obtain ⟨D2, e2, f1, f2, f3, f4, _⟩ := reprD h1 (Nat.ble_eq_true_of_le (by rw [h2]; exact pc)) (Nat.ble_eq_true_of_le (by rw [h3]; exact pd))
      have nl : ∀ k : Nat, k < Rw.ctl xs → (Rw.nal xs ns k).length ≤ 63 := fun k _ => by
        have := (nal_bd xs 6 ns k p.vd p.sub).2
        have := p.nl
        omega
      refine ⟨⟨by decide, by decide⟩, fun t g9 M7 => ∃ t9 : Option R, g9 = [some (.scr sc), some (.o a), some (.int (0 + (i : Int))), some (progR (1 + x) ns xs), some (.str D.shown), some r, some (progR (1 + x) ns (xs ++ [.tell nm])), some (.int (((Rw.all xs).length : Nat) : Int)), some q, t9, s10] ∧ M7 a = some (.dr (m2 + 2)), ⟨_, rfl, updM_same⟩, ?_, ?_⟩
      · rintro t rt g9 M7 hrt ⟨t9, rfl, A7⟩
        obtain ⟨ht, rfl⟩ := intsFrom_get hrt
        have ht' : t < 3 := ht
        refine ⟨t, r, q, 1, by rw [Int.zero_add], by omega, b1, n1, n2, .inl ⟨n3, fun M8 s8 => ?_⟩⟩
        refine ⟨E1, E1, .inl g1, .inl g1, c1, c1, ?_⟩
        rw [eqvRefl c1]
        refine ⟨noT rfl, fun _ => ?_⟩
        refine ⟨t, _, q, 1, by rw [Int.zero_add], by omega, b1, l1, l2, .inr ⟨_, _, _, _, rfl, lp, fun z => absurd z lw, fun pl tt z M9 s9 => ?_⟩⟩
        refine ⟨E2, E2, .inl g2, .inl g2, c2, c2, ?_⟩
        rw [eqvRefl c2]
        refine ⟨noT rfl, fun _ => ?_⟩
        exact nxG rfl ⟨_, rfl, s9 _ _ (s8 _ _ A7)⟩
      · rintro g9 M7 ⟨t9, rfl, A7⟩
        refine ⟨2, _, q, 1, rfl, by decide, b1, w1, w2, .inr ⟨_, _, _, _, rfl, p.pf, fun _ => ⟨fun z => absurd z (by decide), fun z => (by rw [b2] at z; cases z), fun _ _ M8 s8 => ?_, nl⟩, fun pl t z => by rw [p.wrong] at z; cases z⟩⟩
        refine ⟨E3, E3, .inl g3, .inl g3, c3, c3, ?_⟩
        rw [eqvRefl c3]
        refine ⟨noT rfl, fun _ => ?_⟩
        refine ⟨1, _, q, 1, rfl, by decide, b1, w1, w2, .inr ⟨_, _, _, _, rfl, p.pf, fun _ => ⟨fun _ M9 s9 => ?_, fun z => (by rw [b2] at z; cases z), fun z => absurd z (by decide), nl⟩, fun pl t z => (by rw [p.wrong] at z; cases z)⟩⟩
        refine ⟨E0, E0, .inl g0, .inl g0, c0, c0, ?_⟩
        rw [eqvRefl c0]
        refine ⟨noT rfl, fun _ => ?_⟩
        refine ⟨_, 16, rfl, prog_dt16 p.pf, prog_nb _ _ _, by decide, fun M10 s10' => ?_⟩
        have A10 : M10 a = some (.dr (m2 + 2)) := s10' _ _ (s9 _ _ (s8 _ _ A7))
        refine ⟨⟨by decide, by decide⟩, fun t g9 M11 => ∃ t9 : Option R, g9 = [some (.scr sc), some (.o a), some (.int (0 + (i : Int))), some (progR (1 + x) ns xs), some (.str D.shown), some r, some (progR (1 + x) ns (xs ++ [.tell nm])), some (.int (((Rw.all xs).length : Nat) : Int)), some q, t9, some (twR (progR (1 + x) ns xs))] ∧ M11 a = some (.dr (m2 + 2)), ⟨_, rfl, A10⟩, ?_, ?_⟩
        · rintro t rt g9 M11 hrt ⟨t9, rfl, A11⟩
          obtain ⟨ht, rfl⟩ := intsFrom_get hrt
          have ht' : t < 3 := ht
          refine ⟨D2, .inl e2, f1, f2, f3, f4, ⟨_, .inl rfl⟩, D, .inl e, d1, d2, d3, d4, ⟨_, .inl rfl⟩, fun ne => ?_, fun _ => ?_⟩
          · have np : isProgR (twR (progR (1 + x) ns xs)) = false := by
              cases hp2 : isProgR (twR (progR (1 + x) ns xs)) with
              | false => rfl
              | true =>
                rw [tw_prog hp2, e] at e2
                cases e2
                have ne2 : (!decide (D.shown = D.shown)) = true := ne
                rw [decide_eq_true rfl] at ne2
                cases ne2
            refine ⟨t, _, .int 0, 1, by rw [Int.zero_add], by omega, .int _ _, tw_dt w1, by rw [h2]; exact w2, .inl ⟨np, fun M12 s12 => ?_⟩⟩
            refine ⟨E1, E1, .inl g1, .inl g1, c1, c1, ?_⟩
            rw [eqvRefl c1]
            refine ⟨noT rfl, fun _ => ?_⟩
            exact nxG rfl ⟨_, rfl, s12 _ _ A11⟩
          · refine ⟨noT rfl, fun _ => ?_⟩
            exact nxG rfl ⟨_, rfl, A11⟩
        · rintro g9 M11 ⟨t9, rfl, A11⟩
          refine ⟨fun z => ?_, fun z => ?_⟩
          · have z2 : (1 : Int) < (((Rw.all xs).length : Nat) : Int) := of_decide_eq_true z
            rw [all_len] at z2
            have y1 : isWholeR (.int 1) 0 ((Rw.ctl xs : Nat) - 1 : Int) = true := wholeY (by omega) (by omega)
            refine ⟨2, _, .int 1, 1, rfl, by decide, .int _ _, w1, w2, .inr ⟨_, _, _, _, rfl, p.pf, fun _ => ⟨fun z => absurd z (by decide), fun _ M12 s12 => ?_, fun _ z => (by rw [y1] at z; cases z), nl⟩, fun pl t z => (by rw [p.wrong] at z; cases z)⟩⟩
            refine ⟨E0, E0, .inl g0, .inl g0, c0, c0, ?_⟩
            rw [eqvRefl c0]
            refine ⟨noT rfl, fun _ => ?_⟩
            refine ⟨2, _, .bl true, 1, rfl, by decide, .bl _ _, w1, w2, .inr ⟨_, _, _, _, rfl, p.pf, fun _ => ⟨fun z => absurd z (by decide), fun z => (by cases z), fun _ _ M13 s13 => ?_, nl⟩, fun pl t z => (by rw [p.wrong] at z; cases z)⟩⟩
            refine ⟨E3, E3, .inl g3, .inl g3, c3, c3, ?_⟩
            rw [eqvRefl c3]
            refine ⟨noT rfl, fun _ => ?_⟩
            exact nxG rfl ⟨_, _, _, _, _, _, _, _, _, rfl, _, s13 _ _ (s12 _ _ A11), by omega⟩
          · refine ⟨noT rfl, fun _ => ?_⟩
            exact nxG rfl ⟨_, _, _, _, _, _, _, _, _, rfl, _, A11, by omega⟩
  · rintro g' M' ⟨s2, s3, s4, s5, s6, s7, s8, s9, s10, rfl, _⟩
    exact ⟨M', Sub.rfl', hQ M'⟩
end
end DL
open PySem PySem.W PySem.Calls PyProof.Rows
set_option maxHeartbeats 0 in
theorem PySem.Challenge.cw_bitneed_k05_places_and_names_holds : PySem.Challenge.rw_bitneed_k05_places_and_names.Holds := by
  w_on; o_law
  refine HandSHeadRun.head_any (r := OpenLaw.row PySem.Challenge.rw_bitneed_k05_places_and_names) (q := view (OpenLaw.row PySem.Challenge.rw_bitneed_k05_places_and_names).prog [65]) (H := DL.hk) (ob := DL.ob) (M := 12000) (loose := DL.looseN) (d := HandSHeadRun.topDef (OpenLaw.row PySem.Challenge.rw_bitneed_k05_places_and_names).prog 65) (kwd := []) DL.ob_eq
    (by kernel_rfl) (fun s => by kernel_rfl) DL.runE (by kernel_rfl) (by kernel_rfl) (by kernel_rfl) (by rfl) (by first | assumption | decide +kernel) (by decide +kernel) ⟨rfl, rfl, rfl, rfl, rfl, by decide +kernel⟩ ?hw ?hc
  case hw => w_witness2
  case hc =>
    refine DL.walk_G (l := PySem.Challenge.rw_bitneed_k05_places_and_names) (n := 63) (k := 35) (x := "script") rfl (by decide) (by kernel_rfl) ⟨rfl, by decide, by decide⟩ ?F
    intro w mg fa h Y G hmg0
    obtain ⟨K, KX, c⟩ := Y
    have hmg : mg ("law" : PySem.Str) = some (.ref fa) := by
      have e : (HandSHeadRun.topDef (OpenLaw.row PySem.Challenge.rw_bitneed_k05_places_and_names).prog 65).name = ("law" : PySem.Str) := by kernel_rfl
      rw [← e]
      exact hmg0
    obtain ⟨T⟩ := DL.txt_of KX G c
    have e := hmg.symm.trans T.g_law
    cases e
    have b := L2.FunD.bindsA (ps := ["script"]) T.F_law fun _ _ _ _ _ _ us hl => match us, hl with | [_], _ => rfl
    exact ⟨K, T.d_law, _, KX, fun s v => b s [v] rfl, fun ns hl hb => ⟨ns, rfl, hl, fun _ => rfl⟩, fun base _ _ => DL.ok_law T⟩
