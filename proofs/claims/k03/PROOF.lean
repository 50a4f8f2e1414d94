import PyProof.Rows.All
import Wide.All
import OpenK.AllK
import Wide.FinOn
import HandS.ForMost
import HandS.Flow
import HandS.Dict
import HandS.Lambda
import HandS.TupMul
import HandS.Deep
import HandS.TupAny
import HandS.TupLe
import HandS.Wide
import HandS.Style
import HandS.IsInst
import KE.SortData
import KE.DataCmp
import PyProof.ListStr
import HandS.RaiseMore
import HandS.Zip
import HandS.Zip0
import HandS.Defaults
import HandS.MakeKwOnly
import KE.KIntText
import PyProof.StrBlock2
import PyProof.Rows.Digits
import PyProof.ReprRoads
import HandS.OwnEq
import PyProof.InstEq
import HandS.DictComp
import HandS.Conv
import HandS.Small
import PyProof.DictMoreH
import HandS.SetFor
import HandS.Set
import HandS.Strs
import PyProof.Rows.SetFrom
import KE.KRevSl
import KE.KDictOf
import KE.KDictCopyH
import HandS.TupSets
import HandS.Keys
import KE.DataMinMax
import KE.KDictPairs
import KE.KDictKeyed
import HandS.More
import PyProof.TupleOfSeq
import KE.GoesMore
import KE.GoesZip
import KE.KDictZip
import KE.KDictItemsList
import HandS.Sort
import PyProof.DictTruth
import HandS.Exc
import HandS.ExcIs
import HandS.ExcField
import KE.KExcIs
import HandS.SetBool
import PyProof.EqKinds
import PyProof.FactsAll.dict_1
import PyProof.FactsAll.subtypes_4
import HandS.Spec
import HandS.Text
import PyProof.NeKinds
import KE.KUnpackStar
import HandS.StrMore
import HandS.HeadEnd
import PyProof.FitsInt
import PyProof.StrLawsRepr
import HandS.Codes
import HandS.HeadHook4
import HandS.Head2
import HandS.Ends
import HandS.ExcOwn
import HandS.ExcInit
import HandS.FStr
import PyProof.Rows.IntBool
import PyProof.Rows.StrDigitsNeg
import KE.KStateDown
import HandS.WordsExc
import HandS.Head0
import HandS.Head1
import HandS.HeadHook1
import HandS.HeadHook2
import PySem.Challenge.RW_setshouse_k03_nets_of_anything
set_option Elab.async false
set_option linter.all false
set_option maxRecDepth 100000
set_option maxHeartbeats 8000000
namespace DL
open PySem PySem.Spec PyProof.Rows L2
def kindNames : List String := ["NoneType", "bool", "int", "str", "tuple", "list", "dict"]
abbrev Lots := List (List Int)
def lot (L : Lots) (i : Nat) : List Int := L.getD i []
def In (L B : Lots) : Prop := ∀ i, ∀ x ∈ lot L i, x ∈ lot B i
def clsB (K : PySem.W.Frag) (C : Addr) : Bool := He.eqO (PySem.W.findIn K (.ref C) "__class__") (some (some (.builtin "object.__class__"))) && (He.eqO (PySem.W.specialIn K (.builtin "object.__class__") "__get__") (some (some (.builtin "getset_descriptor.__get__"))) &&
  (decide (PySem.W.takesIn K (.builtin "object.__class__") = some true) && (decide (PySem.W.mroIn K C (.type "object") = some true) && (kindNames.all fun k => decide (PySem.W.kitOne K (.type k) (.ref C) = some false)))))
def noLst (K : PySem.W.Frag) : Bool := K.all fun q => match q.2.cls with | .type c => !(c == "list") | _ => true
def kwAt (p : Str × Option Str) (nm : Str) (K : PySem.W.Frag) : Addr := match K.lookup (He.fAd K p) with
  | some ⟨_, _, .func fd, _⟩ => (match fd.kwdefaults with
    | .ref T => (match PySem.W.nsIn K T nm with
      | some (some (.ref a)) => a
      | _ => 0)
    | _ => 0)
  | _ => 0
def etB (K : PySem.W.Frag) (a : Addr) : Bool := match K.lookup a with
  | some ⟨.type t, _, .seq its _, _⟩ => (t == "tuple") && its.isEmpty
  | _ => false
def oexC (K : PySem.W.Frag) (C : Addr) : Bool := match K.lookup C with
  | some ⟨.type "type", _, .cls cd, sl⟩ => (match cd.mro, sl.toList with
    | .ref C' :: bm, [_, _, _, _, some (.builtin n), _] => C' == C && n == "ValueError.__new__" && !cd.hasDel && cd.hasDict && PySem.HandSPX.refsVE bm
    | _, _ => false)
  | _ => false
def oexB (K : PySem.W.Frag) (C : Addr) : Bool := oexC K C && (He.eqO (PySem.W.findIn K (.ref C) "__setattr__") (some (some (.builtin "object.__setattr__"))) && (decide (PySem.W.subIn K (.ref C) (.type "BaseException") = some true) && (decide (PySem.W.typeIn K (.ref C) = some (.type "type")) && PySem.W.keepIn K (.ref C))))
def exccB (K : PySem.W.Frag) (C : Addr) : Bool := He.eqO (PySem.W.findIn K (.ref C) "__getattribute__") (some (some (.builtin "BaseException.__getattribute__"))) && (He.eqO (PySem.W.findIn K (.ref C) "__getattr__") (some none) && (decide (PySem.W.subIn K (.ref C) (.type "BaseException") = some true) && (PySem.W.hasDictIn K C &&
  (He.eqO (PySem.W.findIn K (.ref C) "__class__") (some (some (.builtin "object.__class__"))) && (He.eqO (PySem.W.specialIn K (.builtin "object.__class__") "__get__") (some (some (.builtin "getset_descriptor.__get__"))) && (decide (PySem.W.takesIn K (.builtin "object.__class__") = some true) && decide (PySem.W.mroIn K C (.type "object") = some true)))))))
def xfdB (K : PySem.W.Frag) (C : Addr) (f : Str) : Bool := xfB K C && He.eqO (PySem.W.findIn K (.ref C) f) (some none)
def basiB (K : PySem.W.Frag) (C : Addr) : Bool := PySem.W.readsIn K C (.type "type") && (He.eqO (PySem.W.specialIn K (.ref C) "__getattribute__") (some (some (.builtin "type.__getattribute__"))) && (match PySem.W.findCls K (.ref C) (.type "type") "__init__" with
  | some (.val (.builtin s)) => s == "ValueError.__init__"
  | _ => false))
def exsB (K : PySem.W.Frag) (tv : Value) (ys ns : List Addr) : Bool := (ys.all fun C => exccB K C && decide (PySem.W.kitOne K (.ref C) tv = some true)) && ((ns.all fun C => exccB K C && decide (PySem.W.kitOne K (.ref C) tv = some false)) && (kindNames.all fun k => decide (PySem.W.kitOne K (.type k) tv = some false)))
def exmB (K : PySem.W.Frag) (D : Addr) (ys ns : List Addr) : Bool := (ys.all fun C => decide (PySem.W.exmOne K (.ref C) (.ref D) = some true)) && (ns.all fun C => decide (PySem.W.exmOne K (.ref C) (.ref D) = some false))
def growB (g : Addr → Option Obj) : Nat → List Addr → List Addr → List Addr
  | 0, vis, fr => vis ++ fr
  | n + 1, vis, fr => growB g n (vis ++ fr) ((fr.flatMap fun a => match g a with
    | some o => (He.refsD o).filter fun b => !(vis.contains b || fr.contains b)
    | none => []).eraseDups)
def asS (g : Addr → Option Obj) (n : Nat) : List Addr := growB g n [] [mainGlobals] ++ [cStatics]
def obsS (n : Nat) (fa : List He.Fa) (fn : List He.DefD) (ex : PySem.W.Frag → Bool) (g : Addr → Option Obj) : He.AlX := (He.obsT fa fn [] (He.frT g (asS g n)), ex (He.frT g (asS g n)) && He.tabsB g [] (He.frT g (asS g n)))
theorem saysS_of {n : Nat} {fa : List He.Fa} {fn : List He.DefD} {ex : PySem.W.Frag → Bool} {w : World} {h : Heap} (e : obsS n fa fn ex h.get? = He.valX fn [] w) : He.SaysX fa fn [] [] ex w h (He.frT h.get? (asS h.get? n)) := by
  have e1 : He.obsT fa fn [] (He.frT h.get? (asS h.get? n)) = He.valT fn [] w := congrArg (fun z : He.AlX => z.1) e
  have e2 : (ex (He.frT h.get? (asS h.get? n)) && He.tabsB h.get? [] (He.frT h.get? (asS h.get? n))) = true := congrArg (fun z : He.AlX => z.2) e
  rw [Bool.and_eq_true] at e2
  exact ⟨e1, e2.1, fun p hp => (nomatch hp), fun p hp => (nomatch hp), fun p hp => (nomatch hp)⟩
def hookS (n : Nat) (fa : List He.Fa) (fn : List He.DefD) (ex : PySem.W.Frag → Bool) : PySem.W.Hook where
  α := He.AlX
  obs := fun s => obsS n fa fn ex s.heap.get?
  val := fun w => He.valX fn [] w
  says := fun w h => ∃ K : PySem.W.Frag, K.In h ∧ He.SaysX fa fn [] [] ex w h K
  of := fun _ _ e => ⟨_, He.frT_in, saysS_of e⟩
  keeps := fun _ _ _ ⟨K, hK, c⟩ k => ⟨K, PySem.W.Frag.In.keeps hK k, ⟨c.t, c.more, c.hd, c.out, fun p hp => (nomatch hp)⟩⟩
def b1 (b : Bool) : Int := if b = true then 1 else 0
def topS (i : Nat) : Stmt := PySem.Challenge.pw_setshouse_k03_nets_of_anything.main.body.getD i (.Pass ⟨0, 0, 0, 0⟩)
abbrev s_are_rising : Stmt := topS 9
abbrev s_is_whole : Stmt := topS 6
abbrev s_are_whole : Stmt := topS 7
abbrev s_is_name : Stmt := topS 8
abbrev s_are_ties : Stmt := topS 14
abbrev s_Net_init : Stmt := inClass (topS 15) 0
abbrev s_l_take : Stmt := topS 18
abbrev s_l_of : Stmt := topS 19
abbrev s_l_odd : Stmt := topS 28
abbrev s_l_bent : Stmt := topS 29
abbrev s_l_is_called : Stmt := topS 26
abbrev s_l_is_number : Stmt := topS 25
abbrev s_l_rises : Stmt := topS 27
abbrev s_l_are_ties : Stmt := topS 30
abbrev s_l_due : Stmt := topS 31
abbrev s_Net_len : Stmt := inClass (topS 15) 1
abbrev s_NoNet_init : Stmt := inClass (topS 2) 0
abbrev s_l_right : Stmt := topS 32
abbrev s_l_edges_right : Stmt := topS 33
abbrev s_l_names : Stmt := topS 20
abbrev s_l_all_pairs : Stmt := topS 21
abbrev s_l_pairs : Stmt := topS 22
abbrev s_l_home : Stmt := topS 23
abbrev s_l_mesh : Stmt := topS 24
abbrev s_l_pot : Stmt := topS 17
abbrev s_law : Stmt := topS 34
def d_are_rising : He.DefD := ⟨("are_rising", none), "are_rising", "are_rising", defArgs s_are_rising, defBody s_are_rising, defScope s_are_rising, [], []⟩
def d_is_whole : He.DefD := ⟨("is_whole", none), "is_whole", "is_whole", defArgs s_is_whole, defBody s_is_whole, defScope s_is_whole, [], []⟩
def d_are_whole : He.DefD := ⟨("are_whole", none), "are_whole", "are_whole", defArgs s_are_whole, defBody s_are_whole, defScope s_are_whole, [], []⟩
def d_is_name : He.DefD := ⟨("is_name", none), "is_name", "is_name", defArgs s_is_name, defBody s_is_name, defScope s_is_name, [], []⟩
def d_are_ties : He.DefD := ⟨("are_ties", none), "are_ties", "are_ties", defArgs s_are_ties, defBody s_are_ties, defScope s_are_ties, [], []⟩
def d_Net_init : He.DefD := ⟨("Net", some "__init__"), "__init__", "Net.__init__", defArgs s_Net_init, defBody s_Net_init, defScope s_Net_init, [], [("links", .adr (kwAt ("Net", some "__init__") "links")), ("labels", .adr (kwAt ("Net", some "__init__") "labels"))]⟩
def d_l_take : He.DefD := ⟨("_law_take", none), "_law_take", "_law_take", defArgs s_l_take, defBody s_l_take, defScope s_l_take, [], []⟩
def d_l_of : He.DefD := ⟨("_law_of", none), "_law_of", "_law_of", defArgs s_l_of, defBody s_l_of, defScope s_l_of, [], []⟩
def d_l_odd : He.DefD := ⟨("_law_odd", none), "_law_odd", "_law_odd", defArgs s_l_odd, defBody s_l_odd, defScope s_l_odd, [], []⟩
def d_l_bent : He.DefD := ⟨("_law_bent", none), "_law_bent", "_law_bent", defArgs s_l_bent, defBody s_l_bent, defScope s_l_bent, [], []⟩
def d_l_is_called : He.DefD := ⟨("_law_is_called", none), "_law_is_called", "_law_is_called", defArgs s_l_is_called, defBody s_l_is_called, defScope s_l_is_called, [], []⟩
def d_l_is_number : He.DefD := ⟨("_law_is_number", none), "_law_is_number", "_law_is_number", defArgs s_l_is_number, defBody s_l_is_number, defScope s_l_is_number, [], []⟩
def d_l_rises : He.DefD := ⟨("_law_rises", none), "_law_rises", "_law_rises", defArgs s_l_rises, defBody s_l_rises, defScope s_l_rises, [], []⟩
def d_l_are_ties : He.DefD := ⟨("_law_are_ties", none), "_law_are_ties", "_law_are_ties", defArgs s_l_are_ties, defBody s_l_are_ties, defScope s_l_are_ties, [], []⟩
def d_l_due : He.DefD := ⟨("_law_due", none), "_law_due", "_law_due", defArgs s_l_due, defBody s_l_due, defScope s_l_due, [], []⟩
def d_Net_len : He.DefD := ⟨("Net", some "__len__"), "__len__", "Net.__len__", defArgs s_Net_len, defBody s_Net_len, defScope s_Net_len, [], []⟩
def d_NoNet_init : He.DefD := ⟨("NoNet", some "__init__"), "__init__", "NoNet.__init__", defArgs s_NoNet_init, defBody s_NoNet_init, defScope s_NoNet_init, [], []⟩
def d_l_right : He.DefD := ⟨("_law_right", none), "_law_right", "_law_right", defArgs s_l_right, defBody s_l_right, defScope s_l_right, [], []⟩
def d_l_edges_right : He.DefD := ⟨("_law_edges_right", none), "_law_edges_right", "_law_edges_right", defArgs s_l_edges_right, defBody s_l_edges_right, defScope s_l_edges_right, [], []⟩
def d_l_names : He.DefD := ⟨("_law_names", none), "_law_names", "_law_names", defArgs s_l_names, defBody s_l_names, defScope s_l_names, [], []⟩
def d_l_all_pairs : He.DefD := ⟨("_law_all_pairs", none), "_law_all_pairs", "_law_all_pairs", defArgs s_l_all_pairs, defBody s_l_all_pairs, defScope s_l_all_pairs, [], []⟩
def d_l_pairs : He.DefD := ⟨("_law_pairs", none), "_law_pairs", "_law_pairs", defArgs s_l_pairs, defBody s_l_pairs, defScope s_l_pairs, [], []⟩
def d_l_home : He.DefD := ⟨("_law_home", none), "_law_home", "_law_home", defArgs s_l_home, defBody s_l_home, defScope s_l_home, [], []⟩
def d_l_mesh : He.DefD := ⟨("_law_mesh", none), "_law_mesh", "_law_mesh", defArgs s_l_mesh, defBody s_l_mesh, defScope s_l_mesh, [], []⟩
def d_l_pot : He.DefD := ⟨("_law_pot", none), "_law_pot", "_law_pot", defArgs s_l_pot, defBody s_l_pot, defScope s_l_pot, [], []⟩
def d_law : He.DefD := ⟨("law", none), "law", "law", defArgs s_law, defBody s_law, defScope s_law, [], []⟩
def fnA : List He.DefD := [d_are_rising, d_is_whole, d_are_whole, d_is_name, d_are_ties, d_Net_init, d_l_take, d_l_of, d_l_odd, d_l_bent, d_l_is_called, d_l_is_number, d_l_rises]
def fnB : List He.DefD := [d_l_are_ties, d_l_due, d_Net_len, d_NoNet_init, d_l_right, d_l_edges_right, d_l_names, d_l_all_pairs, d_l_pairs, d_l_home, d_l_mesh, d_l_pot, d_law]
def fn : List He.DefD := fnA ++ fnB
def faA0 : List He.Fa := [.glo "are_rising", .glo "is_whole", .glo "are_whole", .glo "is_name", .glo "are_ties", .glo "_law_take", .glo "_law_of", .glo "_law_odd", .glo "_law_bent", .glo "_law_is_called", .glo "_law_is_number", .glo "_law_rises", .glo "_law_are_ties", .glo "_law_due", .glo "_law_right", .glo "_law_edges_right", .glo "_law_names", .glo "_law_all_pairs", .glo "_law_pairs", .glo "_law_home", .glo "_law_mesh", .glo "_law_pot", .glo "law", .free "ValueError", .free "abs", .free "all", .free "bool"]
def faA : List He.Fa := faA0
def faB0 : List He.Fa := [.free "int", .free "isinstance", .free "len", .free "list", .free "max", .free "min", .free "range", .free "repr", .free "sorted", .free "str", .free "tuple", .free "zip", .str "LETTERS" "abcdefghijklmnopqrstuvwxyz", .int "MOST_KNOTS" 60, .int "MOST_LABELS" 400, .int "MOST_LETTERS" 6, .int "MOST_LINKS" 700, .glo "Net", .cls "Net", .noat "Net" "knots", .noat "Net" "labels", .noat "Net" "links", .glo "HouseError", .glo "NoNet", .meth "NoNet" "__init__", .mkr "Net", .meth "Net" "__len__"]
def faB : List He.Fa := faB0
def fa : List He.Fa := faA ++ faB
def lo0 : List Str := ["HouseError", "NoNet", "LETTERS", "MOST_LETTERS", "is_whole", "are_whole", "is_name", "are_rising", "MOST_KNOTS", "MOST_LINKS", "MOST_LABELS", "are_ties", "Net", "_law_pot", "_law_take", "_law_of", "_law_names", "_law_all_pairs", "_law_pairs", "_law_home", "_law_mesh", "_law_is_number", "_law_is_called", "_law_rises", "_law_odd", "_law_bent", "_law_are_ties", "_law_due", "_law_right", "_law_edges_right"]
def lo : List Str := lo0
def ex (K : PySem.W.Frag) : Bool := [noLst K, clsB K (He.ga K "Net"), etB K (kwAt ("Net", some "__init__") "links" K), etB K (kwAt ("Net", some "__init__") "labels" K), oexB K (He.ga K "NoNet"), basiB K (He.ga K "HouseError"), exsB K (.type "ValueError") [He.ga K "NoNet"] [], exsB K (.ref (He.ga K "NoNet")) [He.ga K "NoNet"] [], exmB K (He.ga K "HouseError") [He.ga K "NoNet"] [], xfdB K (He.ga K "NoNet") "field", xfdB K (He.ga K "NoNet") "field"].all id
abbrev R : PySem.W.OpenRow := PySem.W.OpenLaw.row PySem.Challenge.rw_setshouse_k03_nets_of_anything
abbrev hk : PySem.W.Hook := hookS 8 fa fn ex
def ob (s : PySem.W.SharedT) : He.AlX := obsS 8 fa fn ex (HandSHeadRun.getT s)
theorem join_map {S β γ : Type} {x : Option S} {L : S → Bool} {N : S → β} {g : β} {o1 o2 o3 o4 o : S → γ} {v1 v2 v3 v4 v : γ} (hL : x.map L = some true) (hN : x.map N = some g) (h1 : x.map o1 = some v1) (h2 : x.map o2 = some v2) (h3 : x.map o3 = some v3) (h4 : x.map o4 = some v4)
    (hj : ∀ s, o1 s = v1 → o2 s = v2 → o3 s = v3 → o4 s = v4 → o s = v) : x.map (fun s => (L s, N s, o s)) = some (true, g, v) := by
  cases x with
  | none => cases h1
  | some s =>
    simp only [Option.map_some, Option.some.injEq, Prod.mk.injEq] at hL hN h1 h2 h3 h4 ⊢
    exact ⟨hL, hN, hj s h1 h2 h3 h4⟩
theorem obs_join {n : Nat} {fa1 fa2 : List He.Fa} {fn1 fn2 : List He.DefD} {ex : PySem.W.Frag → Bool} {g : Addr → Option Obj} {w : World} (h1 : obsS n fa1 [] ex g = He.valX [] [] w) (h2 : obsS n fa2 [] (fun _ => true) g = He.valX [] [] w) (h3 : obsS n [] fn1 (fun _ => true) g = He.valX fn1 [] w) (h4 : obsS n [] fn2 (fun _ => true) g = He.valX fn2 [] w) : obsS n (fa1 ++ fa2) (fn1 ++ fn2) ex g = He.valX (fn1 ++ fn2) [] w := by
  simp only [obsS, He.obsT, He.obsD, He.valX, He.valT, He.valD, List.map_nil, List.all_nil, Bool.true_and, Bool.and_true, List.map_append, List.all_append, Prod.mk.injEq, and_true, true_and] at h1 h2 h3 h4 ⊢
  obtain ⟨a1, a2⟩ := h1
  obtain ⟨b1, b2⟩ := h2
  obtain ⟨⟨c1, c2⟩, c3⟩ := h3
  obtain ⟨⟨d1, d2⟩, d3⟩ := h4
  rw [a1, b1, c1, d1, c2, d2]
  exact ⟨⟨rfl, rfl⟩, a2⟩
theorem runA (w : World) (os : PySem.OsState) : (HandSHeadRun.endF (HandSHeadRun.stepQ (HandSHeadRun.denQ HandSHeadRun.tabQ) R.prog w) 20000 R.prog w os).map (fun s => HandSHeadRun.looksF R.prog (PySem.W.boot_heap w.params) s.abs) = some true := by
  kernel_rfl
theorem runB (w : World) (os : PySem.OsState) : (HandSHeadRun.endF (HandSHeadRun.stepQ (HandSHeadRun.denQ HandSHeadRun.tabQ) R.prog w) 20000 R.prog w os).map (fun s => HandSHeadRun.seenQ (PySem.W.view R.prog [34]) lo (PySem.importedModules R.prog.main.body) (fun s => PySem.W.xlAt (PySem.W.view R.prog [34]) [] s && PySem.W.recOk R.toRowW.records s) s.abs) = some (PySem.W.openGood (PySem.W.view R.prog [34]) lo) := by
  kernel_rfl
abbrev hk1 : PySem.W.Hook := hookS 8 faA [] ex
def ob1 (s : PySem.W.SharedT) : He.AlX := obsS 8 faA [] ex (HandSHeadRun.getT s)
theorem run1 (w : World) (os : PySem.OsState) : (HandSHeadRun.endF (HandSHeadRun.stepQ (HandSHeadRun.denQ HandSHeadRun.tabQ) R.prog w) 20000 R.prog w os).map ob1 = some (hk1.val w) := by
  kernel_rfl
abbrev hk2 : PySem.W.Hook := hookS 8 faB [] (fun _ => true)
def ob2 (s : PySem.W.SharedT) : He.AlX := obsS 8 faB [] (fun _ => true) (HandSHeadRun.getT s)
theorem run2 (w : World) (os : PySem.OsState) : (HandSHeadRun.endF (HandSHeadRun.stepQ (HandSHeadRun.denQ HandSHeadRun.tabQ) R.prog w) 20000 R.prog w os).map ob2 = some (hk2.val w) := by
  kernel_rfl
abbrev hk3 : PySem.W.Hook := hookS 8 [] fnA (fun _ => true)
def ob3 (s : PySem.W.SharedT) : He.AlX := obsS 8 [] fnA (fun _ => true) (HandSHeadRun.getT s)
theorem run3 (w : World) (os : PySem.OsState) : (HandSHeadRun.endF (HandSHeadRun.stepQ (HandSHeadRun.denQ HandSHeadRun.tabQ) R.prog w) 20000 R.prog w os).map ob3 = some (hk3.val w) := by
  kernel_rfl
abbrev hk4 : PySem.W.Hook := hookS 8 [] fnB (fun _ => true)
def ob4 (s : PySem.W.SharedT) : He.AlX := obsS 8 [] fnB (fun _ => true) (HandSHeadRun.getT s)
theorem run4 (w : World) (os : PySem.OsState) : (HandSHeadRun.endF (HandSHeadRun.stepQ (HandSHeadRun.denQ HandSHeadRun.tabQ) R.prog w) 20000 R.prog w os).map ob4 = some (hk4.val w) := by
  kernel_rfl
theorem run (w : World) : HandSHeadRun.RunEq R (PySem.W.view R.prog [34]) hk ob 20000 lo w := by
  intro os
  exact join_map (runA w os) (runB w os) (run1 w os) (run2 w os) (run3 w os) (run4 w os) fun s a b c d => obs_join a b c d
end DL
namespace DL
open PySem PySem.Spec PyProof.Rows L2
inductive D where
  | non | bl (b : Bool) | int (i : Int) | str (x : Str) | ty (n : String) | ref (a : Addr) | tup (xs : List D)
def potTop : Int := 10 ^ 900
def potMod : Int := 2305843009213693951
def PotOk (g m : Int) : Prop := 0 ≤ g ∧ g < potTop ∧ 0 ≤ m ∧ m < potMod
inductive MO where
  | lst (ds : List D)
  | dK (kvs : List (Key × D))
  | dT (kvs : List (List Key × D))
  | dX (P : Program) (w : World) (kvs : List (List Key × D))
  | ins (C : Addr) (fs : List (Str × D))
  | pot
  | scr (ns : List Int)
  | tx (ds : List D)
  | exo (C : Addr) (d : Option Addr)
  | exd (fs : List (Str × D))
  | tab (q : Str)
  | cod (q : Str)
def MO.isCod : MO → Bool
  | .cod _ => true
  | .tab _ => true
  | _ => false
abbrev Mp := Addr → Option MO
def up (M : Mp) (a : Addr) (o : MO) : Mp := fun b => if b = a then some o else M b
theorem up_same {M : Mp} {a : Addr} {o : MO} : up M a o a = some o := by unfold up; rw [if_pos rfl]
theorem up_ne {M : Mp} {a b : Addr} {o : MO} (h : b ≠ a) : up M a o b = M b := by unfold up; rw [if_neg h]
def NoO (a : Addr) (o : HO) : Prop := (∀ q : Str, o ≠ LamX.CodeO a q) ∧ ∀ ps, o ≠ .tbl ps
variable (K : PySem.W.Frag)
mutual
def Rep (H : Hp) : D → V → Prop
  | .non, v => v = .non
  | .bl b, v => v = .bl b
  | .int i, v => v = .int i
  | .str x, v => v = .str x
  | .ty n, v => v = .ty n
  | .ref a, v => v = .ref a
  | .tup ds, v => ∃ a vs, v = .ref a ∧ SqT K H a vs ∧ Reps H ds vs
def Reps (H : Hp) : List D → List V → Prop
  | [], vs => vs = []
  | d :: ds, vs => ∃ v r, vs = v :: r ∧ Rep H d v ∧ Reps H ds r
end
def Pairs (H : Hp) {κ : Type} : List (κ × D) → List (κ × V) → Prop
  | [], vs => vs = []
  | (k, d) :: ds, vs => ∃ v r, vs = (k, v) :: r ∧ Rep K H d v ∧ Pairs H ds r
def TD (P : Program) (w : World) (a : Addr) (xs : List (List Key × Addr × V)) : Heap → Prop := fun h => (a == sysModules) = false ∧ ∃ ys : List (List Key × Addr × Value),
  Paired (fun (p : List Key × Addr × V) (q : List Key × Addr × Value) => p.1 = q.1 ∧ p.2.1 = q.2.1 ∧ RelV p.2.2 q.2.2) xs ys ∧
  ∃ o es ep, h.get? a = some o ∧ o.ExactDict ∧ o.data = .dict es ep ∧ es.toList = ys.map (entryOfKey (tupleKind (mixKind P w))) ∧ (ys.map (·.1)).Nodup
def TPs (H : Hp) : List (List Key × D) → List (List Key × Addr × V) → Prop
  | [], xs => xs = []
  | (k, d) :: ds, xs => ∃ b v r, xs = (k, b, v) :: r ∧ SqT K H b (k.map kV) ∧ Rep K H d v ∧ TPs H ds r
def TXk (a : Addr) (vs : List V) (h : Heap) : Prop := ∃ its : List Value, its.length ≤ sizeLine ∧ Vals vs its ∧ h.get? a = some { cls := .type "tuple", data := .seq its.toArray }
def exH (a C : Addr) (d : Option Addr) : HO := .ext fun h => ∃ (oe : Obj) (vs : Array Value), h.get? a = some oe ∧ oe.cls = .ref C ∧ oe.dict = d ∧ oe.data = .fields vs
def RepO (H : Hp) (a : Addr) : MO → Prop
  | .lst ds => ∃ vs, H a = some (.lst vs) ∧ Reps K H ds vs
  | .dK kvs => ∃ vs, H a = some (.dK vs) ∧ Pairs K H kvs vs
  | .dT kvs => ∃ vs, H a = some (.dT vs) ∧ Pairs K H kvs vs
  | .dX P w kvs => ∃ xs, H a = some (.ext (TD P w a xs)) ∧ TPs K H kvs xs
  | .ins C fs => ∃ dx vs, H a = some (.ins C dx vs) ∧ Pairs K H fs vs
  | .pot => ∃ g m, H a = some (.lst [.int g, .int m]) ∧ PotOk g m
  | .scr ns => ∃ o, H a = some (.frz o (.lst (ns.map V.int)))
  | .tx ds => ∃ vs, H a = some (.ext (TXk a vs)) ∧ Reps K H ds vs
  | .exo C d => H a = some (exH a C d)
  | .exd fs => ∃ vs, H a = some (.xd vs) ∧ Pairs K H fs vs
  | .tab q => LamX.TabS H a q
  | .cod q => H a = some (LamX.CodeO a q)
def RepM (H : Hp) (M : Mp) : Prop := ∀ a o, M a = some o → RepO K H a o
def codeObj (q : Str) : Obj := { cls := .none, data := .fields #[.none, .str q default] }
theorem rep_get {n a : Nat} {o : Obj} (h : a < n) (hf : o.data ≠ .freed) : (⟨Array.replicate n o, {}⟩ : Heap).get? a = some o := by
  unfold Heap.get?
  have e : (⟨Array.replicate n o, {}⟩ : Heap).objs[a]? = some o := by
    show (Array.replicate n o)[a]? = some o
    rw [Array.getElem?_replicate, if_pos h]
  rw [e]
  obtain ⟨c, d, dt, sl⟩ := o
  cases dt <;> first | rfl | exact absurd rfl hf
theorem rep_get_eq {n a : Nat} {o oc : Obj} (h : (⟨Array.replicate n o, {}⟩ : Heap).get? a = some oc) : oc = o := by
  unfold Heap.get? at h
  by_cases ha : a < n
  · have e : (⟨Array.replicate n o, {}⟩ : Heap).objs[a]? = some o := by
      show (Array.replicate n o)[a]? = some o
      rw [Array.getElem?_replicate, if_pos ha]
    rw [e] at h
    obtain ⟨c, d, dt, sl⟩ := o
    cases dt <;> first | exact (Option.some.inj h).symm | cases h
  · have e : (⟨Array.replicate n o, {}⟩ : Heap).objs[a]? = none := by
      show (Array.replicate n o)[a]? = none
      rw [Array.getElem?_replicate, if_neg ha]
    rw [e] at h
    cases h
theorem code_ne {c : Addr} {q : Str} {φ : Heap → Prop} (hφ : ∀ h, φ h → ∃ (b : Addr) (oc : Obj), h.get? b = some oc ∧ oc ≠ codeObj q) : HO.ext φ ≠ LamX.CodeO c q := fun e => by
  unfold LamX.CodeO at e
  injection e with e
  have h0 : φ ⟨Array.replicate (c + 1) (codeObj q), {}⟩ := by
    rw [e]
    exact ⟨codeObj q, _, _, rep_get (Nat.lt_succ_self c) (by unfold codeObj; simp), rfl, rfl⟩
  obtain ⟨b, oc, e1, ne⟩ := hφ _ h0
  exact ne (rep_get_eq e1)
def NoT (H : Hp) (a : Addr) : Prop := (∀ xs, ¬ Rd H a (.tup xs)) ∧ (∀ q, H a ≠ some (LamX.CodeO a q)) ∧ ∀ ps, H a ≠ some (.tbl ps)
def TupS (H H' : Hp) : Prop := (∀ a xs, SqT K H a xs → SqT K H' a xs) ∧ ∀ c q, H c = some (LamX.CodeO c q) → H' c = some (LamX.CodeO c q)
variable {K}
theorem TupS.refl (H : Hp) : TupS K H H := ⟨fun _ _ h => h, fun _ _ h => h⟩
theorem TupS.trans {H H1 H2 : Hp} (a : TupS K H H1) (b : TupS K H1 H2) : TupS K H H2 := ⟨fun c o h => b.1 c o (a.1 c o h), fun c q h => b.2 c q (a.2 c q h)⟩
theorem TupS.at_ {H : Hp} {a : Addr} {o : HO} (h : NoT H a) : TupS K H (upd H a o) := by
  refine ⟨fun b xs q => ?_, fun c q hq => ?_⟩
  · rcases q with (q | ⟨z, q⟩) | q
    · refine .inl (.inl ?_)
      rw [upd_ne]; exact q
      intro e; subst e; exact h.1 xs (.inl q)
    · refine .inl (.inr ⟨z, ?_⟩)
      rw [upd_ne]; exact q
      intro e; subst e; exact h.1 xs (.inr ⟨z, q⟩)
    · exact .inr q
  · rw [upd_ne]; exact hq
    intro e; subst e; exact h.2.1 q hq
theorem NoT.of {H : Hp} {a : Addr} {u : Option HO} (h : H a = u) (h1 : ∀ xs, u ≠ some (.tup xs)) (h2 : ∀ o xs, u ≠ some (.frz o (.tup xs))) (h3 : ∀ q, u ≠ some (LamX.CodeO a q)) (h4 : ∀ ps, u ≠ some (.tbl ps) := by intro _ z; cases z) : NoT H a := by
  subst h
  exact ⟨fun xs q => by
    rcases q with q | ⟨z, q⟩
    · exact h1 xs q
    · exact h2 z xs q, h3, h4⟩
theorem TupS.new {H : Hp} {a : Addr} {o : HO} (h : H a = none) : TupS K H (upd H a o) := .at_ (.of h (fun _ z => (nomatch z)) (fun _ _ z => (nomatch z)) fun _ z => (nomatch z))
theorem NoT.lst {H : Hp} {a : Addr} {ys : List V} (h : H a = some (.lst ys)) : NoT H a := .of h (fun _ z => by cases z) (fun _ _ z => by cases z) fun _ z => by unfold LamX.CodeO at z; cases z
theorem TupS.lst {H : Hp} {a : Addr} {o : HO} {ys : List V} (h : H a = some (.lst ys)) : TupS K H (upd H a o) := .at_ (.lst h)
theorem TupS.dK {H : Hp} {a : Addr} {o : HO} {ys} (h : H a = some (.dK ys)) : TupS K H (upd H a o) := .at_ (.of h (fun _ z => by cases z) (fun _ _ z => by cases z) fun _ z => by unfold LamX.CodeO at z; cases z)
theorem TupS.dT {H : Hp} {a : Addr} {o : HO} {ys} (h : H a = some (.dT ys)) : TupS K H (upd H a o) := .at_ (.of h (fun _ z => by cases z) (fun _ _ z => by cases z) fun _ z => by unfold LamX.CodeO at z; cases z)
theorem TupS.ins {H : Hp} {a : Addr} {o : HO} {C dx fs} (h : H a = some (.ins C dx fs)) : TupS K H (upd H a o) := .at_ (.of h (fun _ z => by cases z) (fun _ _ z => by cases z) fun _ z => by unfold LamX.CodeO at z; cases z)
mutual
theorem Rep.stay {H H' : Hp} (t : TupS K H H') : ∀ {d : D} {v : V}, Rep K H d v → Rep K H' d v
  | .non, _, h => h
  | .bl _, _, h => h
  | .int _, _, h => h
  | .str _, _, h => h
  | .ty _, _, h => h
  | .ref _, _, h => h
  | .tup ds, _, h => by
    unfold Rep at h ⊢
    obtain ⟨a, vs, e, s, r⟩ := h
    exact ⟨a, vs, e, t.1 _ _ s, Reps.stay t r⟩
theorem Reps.stay {H H' : Hp} (t : TupS K H H') : ∀ {ds : List D} {vs : List V}, Reps K H ds vs → Reps K H' ds vs
  | [], _, h => h
  | d :: ds, _, h => by
    unfold Reps at h ⊢
    obtain ⟨v, r, e, h1, h2⟩ := h
    exact ⟨v, r, e, Rep.stay t h1, Reps.stay t h2⟩
end
theorem Pairs.stay {H H' : Hp} {κ : Type} (t : TupS K H H') : ∀ {ds : List (κ × D)} {vs : List (κ × V)}, Pairs K H ds vs → Pairs K H' ds vs
  | [], _, h => h
  | (k, d) :: ds, _, h => by
    unfold Pairs at h ⊢
    obtain ⟨v, r, e, h1, h2⟩ := h
    exact ⟨v, r, e, Rep.stay t h1, Pairs.stay t h2⟩
theorem Reps.length {H : Hp} : ∀ {ds : List D} {vs : List V}, Reps K H ds vs → ds.length = vs.length
  | [], _, h => by unfold Reps at h; subst h; rfl
  | d :: ds, _, h => by
    unfold Reps at h
    obtain ⟨v, r, rfl, _, h2⟩ := h
    rw [List.length_cons, List.length_cons, h2.length]
theorem Reps.append {H : Hp} : ∀ {ds es : List D} {vs us : List V}, Reps K H ds vs → Reps K H es us → Reps K H (ds ++ es) (vs ++ us)
  | [], _, _, _, h, h' => by unfold Reps at h; subst h; exact h'
  | d :: ds, _, _, _, h, h' => by
    unfold Reps at h
    obtain ⟨v, r, rfl, h1, h2⟩ := h
    rw [List.cons_append, List.cons_append]
    unfold Reps
    exact ⟨v, _, rfl, h1, h2.append h'⟩
theorem Reps.get {H : Hp} : ∀ {ds : List D} {vs : List V} {i : Nat} {d : D}, Reps K H ds vs → ds[i]? = some d → ∃ v, vs[i]? = some v ∧ Rep K H d v
  | [], _, _, _, _, e => by simp at e
  | d :: ds, _, 0, _, h, e => by
    unfold Reps at h
    obtain ⟨v, r, rfl, h1, h2⟩ := h
    simp at e; subst e
    exact ⟨v, rfl, h1⟩
  | d :: ds, _, i + 1, _, h, e => by
    unfold Reps at h
    obtain ⟨v, r, rfl, h1, h2⟩ := h
    obtain ⟨u, e1, e2⟩ := h2.get (i := i) (by simpa using e)
    exact ⟨u, by simpa using e1, e2⟩
theorem Reps.get' {H : Hp} : ∀ {ds : List D} {vs : List V} {i : Nat} {v : V}, Reps K H ds vs → vs[i]? = some v → ∃ d, ds[i]? = some d ∧ Rep K H d v
  | [], _, _, _, h, e => by unfold Reps at h; subst h; simp at e
  | d :: ds, _, 0, _, h, e => by
    unfold Reps at h
    obtain ⟨v, r, rfl, h1, h2⟩ := h
    simp at e; subst e
    exact ⟨d, rfl, h1⟩
  | d :: ds, _, i + 1, _, h, e => by
    unfold Reps at h
    obtain ⟨v, r, rfl, h1, h2⟩ := h
    obtain ⟨u, e1, e2⟩ := h2.get' (i := i) (by simpa using e)
    exact ⟨u, by simpa using e1, e2⟩
theorem Reps.take {H : Hp} : ∀ {ds : List D} {vs : List V} (n : Nat), Reps K H ds vs → Reps K H (ds.take n) (vs.take n)
  | _, _, 0, _ => by unfold Reps; simp
  | [], _, _ + 1, h => by unfold Reps at h; subst h; unfold Reps; simp
  | d :: ds, _, n + 1, h => by
    unfold Reps at h
    obtain ⟨v, r, rfl, h1, h2⟩ := h
    rw [List.take_succ_cons, List.take_succ_cons]
    unfold Reps
    exact ⟨v, _, rfl, h1, h2.take n⟩
theorem Reps.drop {H : Hp} : ∀ {ds : List D} {vs : List V} (n : Nat), Reps K H ds vs → Reps K H (ds.drop n) (vs.drop n)
  | _, _, 0, h => by simpa using h
  | [], _, _ + 1, h => by unfold Reps at h; subst h; unfold Reps; simp
  | d :: ds, _, n + 1, h => by
    unfold Reps at h
    obtain ⟨v, r, rfl, h1, h2⟩ := h
    rw [List.drop_succ_cons, List.drop_succ_cons]
    exact h2.drop n
theorem Reps.set {H : Hp} {d : D} {v : V} (q : Rep K H d v) : ∀ {ds : List D} {vs : List V} (n : Nat), Reps K H ds vs → Reps K H (ds.set n d) (vs.set n v)
  | [], _, _, h => by unfold Reps at h; subst h; unfold Reps; simp
  | e :: ds, _, 0, h => by
    unfold Reps at h
    obtain ⟨u, r, rfl, h1, h2⟩ := h
    rw [List.set_cons_zero, List.set_cons_zero]
    unfold Reps
    exact ⟨v, _, rfl, q, h2⟩
  | e :: ds, _, n + 1, h => by
    unfold Reps at h
    obtain ⟨u, r, rfl, h1, h2⟩ := h
    rw [List.set_cons_succ, List.set_cons_succ]
    unfold Reps
    exact ⟨u, _, rfl, h1, h2.set q n⟩
theorem Reps.nil {H : Hp} : Reps K H [] [] := by unfold Reps; rfl
theorem Reps.cons {H : Hp} {d : D} {v : V} {ds : List D} {vs : List V} (h1 : Rep K H d v) (h2 : Reps K H ds vs) : Reps K H (d :: ds) (v :: vs) := by unfold Reps; exact ⟨v, vs, rfl, h1, h2⟩
theorem Reps.snoc {H : Hp} {d : D} {v : V} {ds : List D} {vs : List V} (h2 : Reps K H ds vs) (h1 : Rep K H d v) : Reps K H (ds ++ [d]) (vs ++ [v]) := h2.append (Reps.cons h1 .nil)
theorem Reps.ints {H : Hp} : ∀ ns : List Int, Reps K H (ns.map D.int) (ns.map V.int)
  | [] => .nil
  | n :: ns => .cons (by unfold Rep; rfl) (Reps.ints ns)
theorem Pairs.lookup {H : Hp} {κ : Type} [BEq κ] {k : κ} : ∀ {ds : List (κ × D)} {vs : List (κ × V)} {d : D}, Pairs K H ds vs → ds.lookup k = some d → ∃ v, vs.lookup k = some v ∧ Rep K H d v
  | [], _, _, _, e => by simp at e
  | (j, c) :: ds, _, _, h, e => by
    unfold Pairs at h
    obtain ⟨v, r, rfl, h1, h2⟩ := h
    rw [List.lookup_cons] at e ⊢
    cases hb : k == j with
    | true => rw [hb] at e; cases e; exact ⟨v, rfl, h1⟩
    | false => rw [hb] at e; exact h2.lookup e
theorem Pairs.lookup_none {H : Hp} {κ : Type} [BEq κ] {k : κ} : ∀ {ds : List (κ × D)} {vs : List (κ × V)}, Pairs K H ds vs → ds.lookup k = none → vs.lookup k = none
  | [], _, h, e => by unfold Pairs at h; subst h; rfl
  | (j, c) :: ds, _, h, e => by
    unfold Pairs at h
    obtain ⟨v, r, rfl, h1, h2⟩ := h
    rw [List.lookup_cons] at e ⊢
    cases hb : k == j with
    | true => rw [hb] at e; cases e
    | false => rw [hb] at e; exact h2.lookup_none e
theorem Pairs.keys {H : Hp} {κ : Type} : ∀ {ds : List (κ × D)} {vs : List (κ × V)}, Pairs K H ds vs → ds.map (·.1) = vs.map (·.1)
  | [], _, h => by unfold Pairs at h; subst h; rfl
  | (j, c) :: ds, _, h => by
    unfold Pairs at h
    obtain ⟨v, r, rfl, h1, h2⟩ := h
    rw [List.map_cons, List.map_cons, h2.keys]
theorem Pairs.length {H : Hp} {κ : Type} {ds : List (κ × D)} {vs : List (κ × V)} (h : Pairs K H ds vs) : ds.length = vs.length := by
  have e := congrArg List.length h.keys
  simpa using e
theorem TPs.stay {H H' : Hp} (t : TupS K H H') : ∀ {ds : List (List Key × D)} {xs : List (List Key × Addr × V)}, TPs K H ds xs → TPs K H' ds xs
  | [], _, h => h
  | (k, d) :: ds, _, h => by
    unfold TPs at h ⊢
    obtain ⟨b, v, r, e, h1, h2, h3⟩ := h
    exact ⟨b, v, r, e, t.1 _ _ h1, h2.stay t, h3.stay t⟩
theorem TPs.keys {H : Hp} : ∀ {ds : List (List Key × D)} {xs : List (List Key × Addr × V)}, TPs K H ds xs → ds.map (·.1) = xs.map (·.1)
  | [], _, h => by unfold TPs at h; subst h; rfl
  | (k, d) :: ds, _, h => by
    unfold TPs at h
    obtain ⟨b, v, r, rfl, h1, h2, h3⟩ := h
    rw [List.map_cons, List.map_cons, h3.keys]
theorem TPs.sq {H : Hp} : ∀ {ds : List (List Key × D)} {xs : List (List Key × Addr × V)}, TPs K H ds xs → ∀ q ∈ xs, SqT K H q.2.1 (q.1.map kV)
  | [], _, h, q, hq => by unfold TPs at h; subst h; cases hq
  | (k, d) :: ds, _, h, q, hq => by
    unfold TPs at h
    obtain ⟨b, v, r, rfl, h1, h2, h3⟩ := h
    rcases List.mem_cons.mp hq with rfl | hq
    · exact h1
    · exact h3.sq q hq
theorem TPs.more {H : Hp} {k : List Key} {d : D} {b : Addr} {v : V} (hb : SqT K H b (k.map kV)) (hv : Rep K H d v) : ∀ {ds : List (List Key × D)} {xs : List (List Key × Addr × V)}, TPs K H ds xs → TPs K H (ds ++ [(k, d)]) (xs ++ [(k, b, v)])
  | [], _, h => by unfold TPs at h; subst h; exact ⟨b, v, [], rfl, hb, hv, rfl⟩
  | (j, c) :: ds, _, h => by
    unfold TPs at h
    obtain ⟨b', v', r, rfl, h1, h2, h3⟩ := h
    exact ⟨b', v', _, rfl, h1, h2, TPs.more hb hv h3⟩
theorem RepO.stay {H H' : Hp} {a : Addr} (t : TupS K H H') (e : H' a = H a) : ∀ {o : MO}, RepO K H a o → RepO K H' a o
  | .lst ds, h => by obtain ⟨vs, h1, h2⟩ := h; exact ⟨vs, e.trans h1, h2.stay t⟩
  | .dK ds, h => by obtain ⟨vs, h1, h2⟩ := h; exact ⟨vs, e.trans h1, h2.stay t⟩
  | .dT ds, h => by obtain ⟨vs, h1, h2⟩ := h; exact ⟨vs, e.trans h1, h2.stay t⟩
  | .dX P w ds, h => by obtain ⟨vs, h1, h2⟩ := h; exact ⟨vs, e.trans h1, h2.stay t⟩
  | .ins C fs, h => by obtain ⟨dx, vs, h1, h2⟩ := h; exact ⟨dx, vs, e.trans h1, h2.stay t⟩
  | .pot, h => by obtain ⟨g, m, h1, h2⟩ := h; exact ⟨g, m, e.trans h1, h2⟩
  | .scr ns, h => by obtain ⟨o, h1⟩ := h; exact ⟨o, e.trans h1⟩
  | .tx ds, h => by obtain ⟨vs, h1, h2⟩ := h; exact ⟨vs, e.trans h1, h2.stay t⟩
  | .exo C d, h => e.trans h
  | .exd fs, h => by obtain ⟨vs, h1, h2⟩ := h; exact ⟨vs, e.trans h1, h2.stay t⟩
  | .tab q, h => by
    obtain ⟨ps, h1, h2, h3⟩ := h
    refine ⟨ps, e.trans h1, h2, fun pos cv hc => ?_⟩
    obtain ⟨c, e1, e2⟩ := h3 pos cv hc
    exact ⟨c, e1, t.2 _ _ e2⟩
  | .cod q, h => t.2 _ _ h
theorem RepO.some {H : Hp} {a : Addr} : ∀ {o : MO}, RepO K H a o → ∃ u, H a = Option.some u
  | .lst ds, h => by obtain ⟨vs, h1, h2⟩ := h; exact ⟨_, h1⟩
  | .dK ds, h => by obtain ⟨vs, h1, h2⟩ := h; exact ⟨_, h1⟩
  | .dT ds, h => by obtain ⟨vs, h1, h2⟩ := h; exact ⟨_, h1⟩
  | .dX P w ds, h => by obtain ⟨vs, h1, h2⟩ := h; exact ⟨_, h1⟩
  | .ins C fs, h => by obtain ⟨dx, vs, h1, h2⟩ := h; exact ⟨_, h1⟩
  | .pot, h => by obtain ⟨g, m, h1, h2⟩ := h; exact ⟨_, h1⟩
  | .scr ns, h => by obtain ⟨o, h1⟩ := h; exact ⟨_, h1⟩
  | .tx ds, h => by obtain ⟨vs, h1, h2⟩ := h; exact ⟨_, h1⟩
  | .exo C d, h => ⟨_, h⟩
  | .exd fs, h => by obtain ⟨vs, h1, h2⟩ := h; exact ⟨_, h1⟩
  | .tab q, h => by obtain ⟨ps, h1, _⟩ := h; exact ⟨_, h1⟩
  | .cod q, h => ⟨_, h⟩
theorem lst_no {a : Addr} {xs : List V} : NoO a (.lst xs) := ⟨fun _ z => (by unfold LamX.CodeO at z; cases z), fun _ z => (by cases z)⟩
theorem NoT.no {H : Hp} {a : Addr} {u : HO} (h : NoT H a) (e : H a = some u) : NoO a u := ⟨fun q z => h.2.1 q (by rw [e, z]), fun ps z => h.2.2 ps (by rw [e, z])⟩
theorem td_no {P : Program} {w : World} {a : Addr} {xs : List (List Key × Addr × V)} {H : Hp} (h : H a = some (.ext (TD P w a xs))) : NoT H a := .of h (fun _ z => by cases z) (fun _ _ z => by cases z) fun q z => by
  refine code_ne (φ := TD P w a xs) (fun h hh => ?_) (Option.some.inj z)
  obtain ⟨_, ys, _, o, es, ep, e, _, d, _⟩ := hh
  exact ⟨a, o, e, fun z => by rw [z] at d; cases d⟩
theorem tx_no {a : Addr} {vs : List V} {H : Hp} (h : H a = some (.ext (TXk a vs))) : NoT H a := .of h (fun _ z => by cases z) (fun _ _ z => by cases z) fun q z => by
  refine code_ne (φ := TXk a vs) (fun h hh => ?_) (Option.some.inj z)
  obtain ⟨its, _, _, e⟩ := hh
  exact ⟨a, _, e, fun z => by cases congrArg Obj.data z⟩
theorem exh_no {a C : Addr} {d : Option Addr} {H : Hp} (h : H a = some (exH a C d)) : NoT H a := .of h (fun _ z => by unfold exH at z; cases z) (fun _ _ z => by unfold exH at z; cases z) (h4 := fun _ z => by unfold exH at z; cases z) fun q z => by
  have z := Option.some.inj z
  unfold exH at z
  refine code_ne (fun h hh => ?_) z
  obtain ⟨oe, vs, e, e1, _⟩ := hh
  exact ⟨a, oe, e, fun z => by rw [z] at e1; cases e1⟩
theorem RepO.notup {H : Hp} {a : Addr} : ∀ {o : MO}, RepO K H a o → o.isCod = false → NoT H a
  | .lst ds, h, _ => by obtain ⟨vs, h1, h2⟩ := h; exact .lst h1
  | .dK ds, h, _ => by obtain ⟨vs, h1, h2⟩ := h; exact .of h1 (fun _ z => by cases z) (fun _ _ z => by cases z) fun _ z => by unfold LamX.CodeO at z; cases z
  | .dT ds, h, _ => by obtain ⟨vs, h1, h2⟩ := h; exact .of h1 (fun _ z => by cases z) (fun _ _ z => by cases z) fun _ z => by unfold LamX.CodeO at z; cases z
  | .dX P w ds, h, _ => by obtain ⟨vs, h1, h2⟩ := h; exact td_no h1
  | .ins C fs, h, _ => by obtain ⟨dx, vs, h1, h2⟩ := h; exact .of h1 (fun _ z => by cases z) (fun _ _ z => by cases z) fun _ z => by unfold LamX.CodeO at z; cases z
  | .pot, h, _ => by obtain ⟨g, m, h1, h2⟩ := h; exact .lst h1
  | .scr ns, h, _ => by obtain ⟨o, h1⟩ := h; exact .of h1 (fun _ z => by cases z) (fun _ _ z => by cases z) fun _ z => by unfold LamX.CodeO at z; cases z
  | .tx ds, h, _ => by obtain ⟨vs, h1, h2⟩ := h; exact tx_no h1
  | .exo C d, h, _ => exh_no h
  | .exd fs, h, _ => by obtain ⟨vs, h1, h2⟩ := h; exact .of h1 (fun _ z => by cases z) (fun _ _ z => by cases z) fun _ z => by unfold LamX.CodeO at z; cases z
  | .tab q, _, hn => by cases hn
  | .cod q, _, hn => by cases hn
theorem RepM.none {H : Hp} {M : Mp} (r : RepM K H M) {p : Addr} (h : H p = Option.none) : M p = Option.none := by
  cases q : M p with
  | none => rfl
  | some o => obtain ⟨u, e⟩ := (r p o q).some; rw [h] at e; cases e
theorem RepM.new {H : Hp} {M : Mp} (r : RepM K H M) {p : Addr} {u : HO} {o : MO} (h : H p = Option.none) (ho : RepO K (upd H p u) p o) : RepM K (upd H p u) (up M p o) := fun a q e => by
  by_cases ha : a = p
  · subst ha; rw [up_same] at e; cases e; exact ho
  · rw [up_ne ha] at e
    exact (r a q e).stay (.new h) (upd_ne ha)
theorem RepM.more {H : Hp} {M : Mp} (r : RepM K H M) {p : Addr} {u : HO} (h : H p = Option.none) : RepM K (upd H p u) M := fun a q e => by
  have ha : a ≠ p := fun z => by subst z; rw [r.none h] at e; cases e
  exact (r a q e).stay (.new h) (upd_ne ha)
theorem RepM.put {H : Hp} {M : Mp} (r : RepM K H M) {p : Addr} {u : HO} {o o' : MO} (h : M p = Option.some o) (ho : RepO K (upd H p u) p o') (hn : o.isCod = false := by rfl) : RepM K (upd H p u) (up M p o') := fun a q e => by
  by_cases ha : a = p
  · subst ha; rw [up_same] at e; cases e; exact ho
  · rw [up_ne ha] at e
    exact (r a q e).stay (.at_ ((r p o h).notup hn)) (upd_ne ha)
end DL
namespace DL
open PySem L2
abbrev Ro := List (Option D)
abbrev DQ := D → Mp → Prop
abbrev WE := Ro → Mp → DQ → Prop
abbrev WT := Ro → Mp → (Bool → Mp → Prop) → Prop
abbrev WA := Ro → Mp → (List D → Mp → Prop) → Prop
abbrev Spec := List D → Mp → DQ → Prop
variable {K : PySem.W.Frag}
def RepS (K : PySem.W.Frag) (H : Hp) (σ : St) (ρ : Ro) : Prop := σ.length = ρ.length ∧ ∀ (i : Nat) (d : D), ρ[i]? = some (some d) → ∃ v, σ[i]? = some (some v) ∧ Rep K H d v
def FrOk (F : Addr → Prop) (H : Hp) (M : Mp) : Prop := ∀ a, F a → (∃ o, H a = some o ∧ NoO a o) ∧ M a = none
def Frm (F : Addr → Prop) (H H' : Hp) (M' : Mp) : Prop := ∀ a, F a → H' a = H a ∧ M' a = none
theorem FrOk.frm {F : Addr → Prop} {H : Hp} {M : Mp} (f : FrOk F H M) : Frm F H H M := fun a h => ⟨rfl, (f a h).2⟩
theorem FrOk.next {F : Addr → Prop} {H H' : Hp} {M M' : Mp} (f : FrOk F H M) (g : Frm F H H' M') : FrOk F H' M' := fun a h => ⟨by rw [(g a h).1]; exact (f a h).1, (g a h).2⟩
theorem Frm.trans {F : Addr → Prop} {H H1 H2 : Hp} {M1 M2 : Mp} (f : Frm F H H1 M1) (g : Frm F H1 H2 M2) : Frm F H H2 M2 := fun a h => ⟨(g a h).1.trans (f a h).1, (g a h).2⟩
theorem FrOk.new {F : Addr → Prop} {H : Hp} {M : Mp} (f : FrOk F H M) {p : Addr} {u : HO} (h : H p = none) (o : MO) : Frm F H (upd H p u) (up M p o) := fun a ha => by
  have ne : a ≠ p := fun z => by obtain ⟨⟨o, q, _⟩, _⟩ := f a ha; rw [z, h] at q; cases q
  exact ⟨upd_ne ne, by rw [up_ne ne]; exact (f a ha).2⟩
theorem FrOk.more {F : Addr → Prop} {H : Hp} {M : Mp} (f : FrOk F H M) {p : Addr} {u : HO} (h : H p = none) : Frm F H (upd H p u) M := fun a ha => by
  have ne : a ≠ p := fun z => by obtain ⟨⟨o, q, _⟩, _⟩ := f a ha; rw [z, h] at q; cases q
  exact ⟨upd_ne ne, (f a ha).2⟩
theorem FrOk.put {F : Addr → Prop} {H : Hp} {M : Mp} (f : FrOk F H M) {p : Addr} {u : HO} {o : MO} (h : M p = some o) (o' : MO) : Frm F H (upd H p u) (up M p o') := fun a ha => by
  have ne : a ≠ p := fun z => by have q := (f a ha).2; rw [z, h] at q; cases q
  exact ⟨upd_ne ne, by rw [up_ne ne]; exact (f a ha).2⟩
structure Stt (K : PySem.W.Frag) (H : Hp) (σ : St) (ρ : Ro) (M : Mp) (F : Addr → Prop) : Prop where
  rs : RepS K H σ ρ
  rm : RepM K H M
  fr : FrOk F H M
theorem Stt.next {H H' : Hp} {σ : St} {ρ : Ro} {M M' : Mp} {F : Addr → Prop} (s : Stt K H σ ρ M F) (t : TupS K H H') (f : Frm F H H' M') (r : RepM K H' M') : Stt K H' σ ρ M' F :=
  ⟨⟨s.rs.1, fun i d e => let ⟨v, e1, e2⟩ := s.rs.2 i d e; ⟨v, e1, e2.stay t⟩⟩, r, s.fr.next f⟩
theorem Stt.set {H : Hp} {σ : St} {ρ : Ro} {M : Mp} {F : Addr → Prop} (s : Stt K H σ ρ M F) {d : D} {v : V} (r : Rep K H d v) (i : Nat) : Stt K H (σ.set i (some v)) (ρ.set i (some d)) M F := by
  refine ⟨⟨by rw [List.length_set, List.length_set]; exact s.rs.1, fun j e h => ?_⟩, s.rm, s.fr⟩
  by_cases hj : i = j
  · subst hj
    by_cases hl : i < ρ.length
    · rw [List.getElem?_set_self hl] at h
      cases h
      exact ⟨v, by rw [List.getElem?_set_self (by rw [s.rs.1]; exact hl)], r⟩
    · rw [List.getElem?_eq_none (by rw [List.length_set]; omega)] at h; cases h
  · rw [List.getElem?_set_ne hj] at h
    obtain ⟨u, e1, e2⟩ := s.rs.2 j e h
    exact ⟨u, by rw [List.getElem?_set_ne hj]; exact e1, e2⟩
def Go (K : PySem.W.Frag) (F : Addr → Prop) (H : Hp) (Q0 : DQ) (Q : VK) : Prop := ∀ d M' v H', Q0 d M' → TupS K H H' → Frm F H H' M' → RepM K H' M' → Rep K H' d v → Q v H'
def GoT (K : PySem.W.Frag) (F : Addr → Prop) (H : Hp) (Q0 : Bool → Mp → Prop) (Q : Bool → Hp → Prop) : Prop := ∀ b M' H', Q0 b M' → TupS K H H' → Frm F H H' M' → RepM K H' M' → Q b H'
def GoA (K : PySem.W.Frag) (F : Addr → Prop) (H : Hp) (Q0 : List D → Mp → Prop) (Q : List V → Hp → Prop) : Prop := ∀ ds M' vs H', Q0 ds M' → TupS K H H' → Frm F H H' M' → RepM K H' M' → Reps K H' ds vs → Q vs H'
theorem Go.from {F : Addr → Prop} {H H1 : Hp} {M1 : Mp} {Q0 : DQ} {Q : VK} (g : Go K F H Q0 Q) (t : TupS K H H1) (f : Frm F H H1 M1) : Go K F H1 Q0 Q := fun d M' v H' q t' f' r p => g d M' v H' q (t.trans t') (f.trans f') r p
theorem GoT.from {F : Addr → Prop} {H H1 : Hp} {M1 : Mp} {Q0} {Q} (g : GoT K F H Q0 Q) (t : TupS K H H1) (f : Frm F H H1 M1) : GoT K F H1 Q0 Q := fun d M' H' q t' f' r => g d M' H' q (t.trans t') (f.trans f') r
theorem GoA.from {F : Addr → Prop} {H H1 : Hp} {M1 : Mp} {Q0} {Q} (g : GoA K F H Q0 Q) (t : TupS K H H1) (f : Frm F H H1 M1) : GoA K F H1 Q0 Q := fun d M' v H' q t' f' r p => g d M' v H' q (t.trans t') (f.trans f') r p
def tD (K : PySem.W.Frag) (w : WE) : TE := fun σ H Q => ∃ ρ M F Q0, Stt K H σ ρ M F ∧ w ρ M Q0 ∧ Go K F H Q0 Q
def tDT (K : PySem.W.Frag) (w : WT) : TT := fun σ H Q => ∃ ρ M F Q0, Stt K H σ ρ M F ∧ w ρ M Q0 ∧ GoT K F H Q0 Q
def tDA (K : PySem.W.Frag) (w : WA) : TA := fun σ H Q => ∃ ρ M F Q0, Stt K H σ ρ M F ∧ w ρ M Q0 ∧ GoA K F H Q0 Q
theorem _root_.L2.PE.imp {X : Cx} {e : Expr} {t t' : TE} (h : PE X e t) (i : ∀ σ H Q, t' σ H Q → t σ H Q) : PE X e t' := ⟨fun pins s σ H Q I q => h.run pins s σ H Q I (i σ H Q q)⟩
theorem _root_.L2.PT.imp {X : Cx} {e : Expr} {t t' : TT} (h : PT X e t) (i : ∀ σ H Q, t' σ H Q → t σ H Q) : PT X e t' := ⟨fun pins s σ H Q I q => h.run pins s σ H Q I (i σ H Q q)⟩
theorem _root_.L2.PW.imp {X : Cx} {e : Expr} {t t' : TT} (h : PW X e t) (i : ∀ σ H Q, t' σ H Q → t σ H Q) : PW X e t' := ⟨fun wh pins s σ H Q I q => h.run wh pins s σ H Q I (i σ H Q q)⟩
theorem _root_.L2.PA.imp {X : Cx} {e : List Expr} {t t' : TA} (h : PA X e t) (i : ∀ σ H Q, t' σ H Q → t σ H Q) : PA X e t' := ⟨fun pos pins s σ H Q I q => h.run pos pins s σ H Q I (i σ H Q q)⟩
theorem _root_.L2.PS.imp {X : Cx} {e : Stmt} {t t' : TS} (h : PS X e t) (i : ∀ D σ H, t' D σ H → t D σ H) : PS X e t' := ⟨fun pins s σ H D I q => h.run pins s σ H D I (i D σ H q)⟩
theorem _root_.L2.PSs.imp {X : Cx} {e : List Stmt} {t t' : TS} (h : PSs X e t) (i : ∀ D σ H, t' D σ H → t D σ H) : PSs X e t' := ⟨fun pins s σ H D I q => h.run pins s σ H D I (i D σ H q)⟩
def wVar (i : Nat) : WE := fun ρ M Q => ∃ d, ρ[i]? = some (some d) ∧ Q d M
def wC (d : D) : WE := fun _ M Q => Q d M
section
variable {X : Cx} {a b c : Expr} {wa wb wc : WE} {pos : Pos}
theorem pd_var {i : Nat} {x : Str} (h : PE X a (tVar i)) : PE X a (tD X.K (wVar i)) := h.imp fun σ H Q => by
  rintro ⟨ρ, M, F, Q0, s, ⟨d, e, q⟩, g⟩
  obtain ⟨v, e1, r⟩ := s.rs.2 i d e
  exact ⟨v, e1, g d M v H q (.refl H) s.fr.frm s.rm r⟩
theorem pd_c {d : D} {v : V} (h : PE X a (tC v)) (r : ∀ H, Rep X.K H d v) : PE X a (tD X.K (wC d)) := h.imp fun σ H Q => by
  rintro ⟨ρ, M, F, Q0, s, q, g⟩
  exact g d M v H q (.refl H) s.fr.frm s.rm (r H)
def rD (K : PySem.W.Frag) (f : D → D → Mp → DQ → Prop) : R2 := fun x y H Q => ∃ dx dy M F Q0, Rep K H dx x ∧ Rep K H dy y ∧ RepM K H M ∧ FrOk F H M ∧ f dx dy M Q0 ∧ Go K F H Q0 Q
def w2 (f : D → D → Mp → DQ → Prop) (wa wb : WE) : WE := fun ρ M Q => wa ρ M fun x M1 => wb ρ M1 fun y M2 => f x y M2 Q
theorem two {f : D → D → Mp → DQ → Prop} {σ : St} {H : Hp} {Q : VK} (h : tD K (w2 f wa wb) σ H Q) : tOp (rD K f) (tD K wa) (tD K wb) σ H Q := by
  obtain ⟨ρ, M, F, Q0, s, q, g⟩ := h
  refine ⟨ρ, M, F, _, s, q, fun x M1 v H1 q1 t1 f1 r1 p1 => ⟨ρ, M1, F, _, s.next t1 f1 r1, q1, fun y M2 u H2 q2 t2 f2 r2 p2 => ?_⟩⟩
  exact ⟨x, y, M2, F, Q0, p1.stay t2, p2, r2, (s.fr.next f1).next f2, q2, (g.from t1 f1).from t2 f2⟩
theorem pd_bin {op : Operator} {f : D → D → Mp → DQ → Prop} (ho : OpR X (binaryOp op) (rD X.K f)) (ha : PE X a (tD X.K wa)) (hb : PE X b (tD X.K wb)) : PE X (.BinOp a op b pos) (tD X.K (w2 f wa wb)) :=
  (pe_op ho ha hb).imp fun _ _ _ h => two h
theorem pd_cmp {op : CmpOp} {f : D → D → Mp → DQ → Prop} (ho : OpR X (compareOp op) (rD X.K f)) (ha : PE X a (tD X.K wa)) (hb : PE X b (tD X.K wb)) (hm : behindInMarks op b = false) : PE X (.Compare a [op] [b] pos) (tD X.K (w2 f wa wb)) :=
  (pe_cmpR ho ha hb hm).imp fun _ _ _ h => two h
def wTest (w : WE) : WT := fun ρ M Q => w ρ M fun d M' => ∃ k, d = .bl k ∧ Q k M'
theorem test_of {w : WE} {σ : St} {H : Hp} {Q : Bool → Hp → Prop} (h : tDT K (wTest w) σ H Q) : tTest (tD K w) σ H Q := by
  obtain ⟨ρ, M, F, Q0, s, q, g⟩ := h
  refine ⟨ρ, M, F, _, s, q, fun x M1 v H1 q1 t1 f1 r1 p1 => ?_⟩
  obtain ⟨k, rfl, q1⟩ := q1
  exact ⟨k, p1, g k M1 H1 q1 t1 f1 r1⟩
theorem pdt_cmp {op : CmpOp} {f : D → D → Mp → DQ → Prop} (ho : OpR X (compareOp op) (rD X.K f)) (ha : PE X a (tD X.K wa)) (hb : PE X b (tD X.K wb)) (hm : behindInMarks op b = false) : PT X (.Compare a [op] [b] pos) (tDT X.K (wTest (w2 f wa wb))) :=
  (pt_cmpR ho ha hb hm).imp fun _ _ _ h => two (test_of h)
def w3 (f f' : D → D → Mp → DQ → Prop) (wa wb wc : WE) : WE := fun ρ M Q => wa ρ M fun x M1 => wb ρ M1 fun y M2 => f x y M2 fun z M3 => ∃ k, z = .bl k ∧ if k = true then wc ρ M3 fun u M4 => f' y u M4 Q else Q (.bl false) M3
theorem three {f f' : D → D → Mp → DQ → Prop} {σ : St} {H : Hp} {Q : VK} (h : tD K (w3 f f' wa wb wc) σ H Q) : tChain (rD K f) (rD K f') (tD K wa) (tD K wb) (tD K wc) σ H Q := by
  obtain ⟨ρ, M, F, Q0, s, q, g⟩ := h
  refine ⟨ρ, M, F, _, s, q, fun x M1 v H1 q1 t1 f1 r1 p1 => ⟨ρ, M1, F, _, s.next t1 f1 r1, q1, fun y M2 u H2 q2 t2 f2 r2 p2 => ?_⟩⟩
  have fr2 := (s.fr.next f1).next f2
  refine ⟨x, y, M2, F, _, p1.stay t2, p2, r2, fr2, q2, fun z M3 z' H3 q3 t3 f3 r3 p3 => ?_⟩
  obtain ⟨k, rfl, q3⟩ := q3
  refine ⟨k, p3, ?_⟩
  have g3 := ((g.from t1 f1).from t2 f2).from t3 f3
  cases k with
  | false =>
    rw [if_neg Bool.false_ne_true] at q3 ⊢
    exact g3 _ M3 _ H3 q3 (.refl _) (fr2.next f3).frm r3 rfl
  | true =>
    rw [if_pos rfl] at q3 ⊢
    refine ⟨ρ, M3, F, _, ((s.next t1 f1 r1).next t2 f2 r2).next t3 f3 r3, q3, fun u M4 u' H4 q4 t4 f4 r4 p4 => ?_⟩
    exact ⟨y, u, M4, F, Q0, p2.stay (t3.trans t4), p4, r4, (fr2.next f3).next f4, q4, g3.from t4 f4⟩
theorem pd_chain {op op' : CmpOp} {f f' : D → D → Mp → DQ → Prop} (ho : OpR X (compareOp op) (rD X.K f)) (ho' : OpR X (compareOp op') (rD X.K f')) (ha : PE X a (tD X.K wa)) (hb : PE X b (tD X.K wb)) (hc : PE X c (tD X.K wc))
    (hm : lastMarks [op, op'] [b, c] = false) : PE X (.Compare a [op, op'] [b, c] pos) (tD X.K (w3 f f' wa wb wc)) := (pe_chain ho ho' ha hb hc hm).imp fun _ _ _ h => three h
theorem pdt_chain {op op' : CmpOp} {f f' : D → D → Mp → DQ → Prop} (ho : OpR X (compareOp op) (rD X.K f)) (ho' : OpR X (compareOp op') (rD X.K f')) (ha : PE X a (tD X.K wa)) (hb : PE X b (tD X.K wb)) (hc : PE X c (tD X.K wc))
    (hm : lastMarks [op, op'] [b, c] = false) : PT X (.Compare a [op, op'] [b, c] pos) (tDT X.K (wTest (w3 f f' wa wb wc))) := (pt_chain ho ho' ha hb hc hm).imp fun _ _ _ h => three (test_of h)
def rD1 (K : PySem.W.Frag) (f : D → Mp → DQ → Prop) : V → Hp → VK → Prop := fun x H Q => ∃ dx M F Q0, Rep K H dx x ∧ RepM K H M ∧ FrOk F H M ∧ f dx M Q0 ∧ Go K F H Q0 Q
def w1 (f : D → Mp → DQ → Prop) (wa : WE) : WE := fun ρ M Q => wa ρ M fun x M1 => f x M1 Q
theorem one {f : D → Mp → DQ → Prop} {σ : St} {H : Hp} {Q : VK} (h : tD K (w1 f wa) σ H Q) : tUn (rD1 K f) (tD K wa) σ H Q := by
  obtain ⟨ρ, M, F, Q0, s, q, g⟩ := h
  refine ⟨ρ, M, F, _, s, q, fun x M1 v H1 q1 t1 f1 r1 p1 => ?_⟩
  exact ⟨x, M1, F, Q0, p1, r1, s.fr.next f1, q1, g.from t1 f1⟩
theorem pd_un {op : UnaryOp} {f : D → Mp → DQ → Prop} (ho : UnR X (unaryOp op) (rD1 X.K f)) (ha : PE X a (tD X.K wa)) : PE X (.UnaryOp op a pos) (tD X.K (w1 f wa)) := (pe_un ho ha).imp fun _ _ _ h => one h
def truD (d : D) (M : Mp) (k : Bool) : Prop := match d with
  | .non => k = false
  | .bl b => k = b
  | .int i => k = (i != 0)
  | .str y => y.length ≤ sizeLine ∧ k = ((y.length : Int) != 0)
  | .tup ds => k = !ds.isEmpty
  | .ref a => (∃ ds, M a = some (.lst ds) ∧ k = !ds.isEmpty) ∨ ∃ kvs, M a = some (.dK kvs) ∧ k = !kvs.isEmpty
  | .ty _ => False
theorem emp_of {H : Hp} {ds : List D} {vs : List V} (r : Reps K H ds vs) : (!ds.isEmpty) = !vs.isEmpty := by
  have e := r.length
  cases ds <;> cases vs <;> simp at e ⊢
theorem truD_ok {d : D} {M : Mp} {k : Bool} {H : Hp} {v : V} (h : truD d M k) (r : Rep K H d v) (m : RepM K H M) : TruV K v H k := by
  cases d with
  | non => cases r; exact h
  | bl b => cases r; exact h
  | int i => cases r; exact h
  | str y => cases r; exact h
  | ty n => exact h.elim
  | tup ds =>
    unfold Rep at r
    obtain ⟨a, vs, rfl, s, r⟩ := r
    exact .inr (.inl ⟨vs, s, by rw [← emp_of r]; exact h⟩)
  | ref a =>
    cases r
    rcases h with ⟨ds, e, h⟩ | ⟨kvs, e, h⟩
    · obtain ⟨vs, e1, r⟩ := m a _ e
      exact .inl ⟨vs, .of e1, by rw [← emp_of r]; exact h⟩
    · obtain ⟨vs, e1, r⟩ := m a _ e
      refine .inr (.inr ⟨vs, e1, ?_⟩)
      have e2 := r.length
      rw [h]
      cases kvs <;> cases vs <;> simp at e2 ⊢
def wTru (w : WE) : WT := fun ρ M Q => w ρ M fun d M' => ∃ k, truD d M' k ∧ Q k M'
theorem pdt_truth (ha : PE X a (tD X.K wa)) (he : ∀ whole, isTrue a X.env whole = (do let v ← whole; standAt a.pos; holding [v] (truthy v))) : PT X a (tDT X.K (wTru wa)) :=
  (pt_truth ha he).imp fun σ H Q => by
    rintro ⟨ρ, M, F, Q0, s, q, g⟩
    refine ⟨ρ, M, F, _, s, q, fun x M1 v H1 q1 t1 f1 r1 p1 => ?_⟩
    obtain ⟨k, e, q1⟩ := q1
    exact ⟨k, truD_ok e p1 r1, g k M1 H1 q1 t1 f1 r1⟩
def wAnd (t u : WT) : WT := fun ρ M Q => t ρ M fun b M1 => if b = true then u ρ M1 Q else Q false M1
def wOr (t u : WT) : WT := fun ρ M Q => t ρ M fun b M1 => if b = true then Q true M1 else u ρ M1 Q
def wNot (t : WT) : WT := fun ρ M Q => t ρ M fun b M1 => Q (!b) M1
theorem and_of {wt wu : WT} {σ : St} {H : Hp} {Q} (h : tDT K (wAnd wt wu) σ H Q) : tAnd (tDT K wt) (tDT K wu) σ H Q := by
  obtain ⟨ρ, M, F, Q0, s, q, g⟩ := h
  refine ⟨ρ, M, F, _, s, q, fun b M1 H1 q1 t1 f1 r1 => ?_⟩
  cases b with
  | true => rw [if_pos rfl] at q1 ⊢; exact ⟨ρ, M1, F, Q0, s.next t1 f1 r1, q1, g.from t1 f1⟩
  | false => rw [if_neg Bool.false_ne_true] at q1 ⊢; exact g _ M1 H1 q1 t1 f1 r1
theorem or_of {wt wu : WT} {σ : St} {H : Hp} {Q} (h : tDT K (wOr wt wu) σ H Q) : tOr (tDT K wt) (tDT K wu) σ H Q := by
  obtain ⟨ρ, M, F, Q0, s, q, g⟩ := h
  refine ⟨ρ, M, F, _, s, q, fun b M1 H1 q1 t1 f1 r1 => ?_⟩
  cases b with
  | true => rw [if_pos rfl] at q1 ⊢; exact g _ M1 H1 q1 t1 f1 r1
  | false => rw [if_neg Bool.false_ne_true] at q1 ⊢; exact ⟨ρ, M1, F, Q0, s.next t1 f1 r1, q1, g.from t1 f1⟩
theorem pdw_and {wt wu : WT} {rest : List Expr} (ha : PT X a (tDT X.K wt)) (hb : PW X (.BoolOp .And (b :: rest) pos) (tDT X.K wu)) : PW X (.BoolOp .And (a :: b :: rest) pos) (tDT X.K (wAnd wt wu)) := (pw_and ha hb).imp fun _ _ _ h => and_of h
theorem pdw_or {wt wu : WT} {rest : List Expr} (ha : PT X a (tDT X.K wt)) (hb : PW X (.BoolOp .Or (b :: rest) pos) (tDT X.K wu)) : PW X (.BoolOp .Or (a :: b :: rest) pos) (tDT X.K (wOr wt wu)) := (pw_or ha hb).imp fun _ _ _ h => or_of h
theorem pdt_not {wt : WT} (ha : PT X a (tDT X.K wt)) : PT X (.UnaryOp .Not a pos) (tDT X.K (wNot wt)) := (pt_not ha).imp fun σ H Q => by
  rintro ⟨ρ, M, F, Q0, s, q, g⟩
  exact ⟨ρ, M, F, _, s, q, fun b M1 H1 q1 t1 f1 r1 => g _ M1 H1 q1 t1 f1 r1⟩
def wAndV (wa wb : WE) : WE := fun ρ M Q => wa ρ M fun x M1 => ∃ k, truD x M1 k ∧ if k = true then wb ρ M1 Q else Q x M1
def wOrV (wa wb : WE) : WE := fun ρ M Q => wa ρ M fun x M1 => ∃ k, truD x M1 k ∧ if k = true then Q x M1 else wb ρ M1 Q
def wNotV (wa : WE) : WE := fun ρ M Q => wa ρ M fun x M1 => ∃ k, truD x M1 k ∧ Q (.bl (!k)) M1
theorem pd_and {rest : List Expr} (ha : PE X a (tD X.K wa)) (hb : PE X (.BoolOp .And (b :: rest) pos) (tD X.K wb)) : PE X (.BoolOp .And (a :: b :: rest) pos) (tD X.K (wAndV wa wb)) := (pe_andT ha hb).imp fun σ H Q => by
  rintro ⟨ρ, M, F, Q0, s, q, g⟩
  refine ⟨ρ, M, F, _, s, q, fun x M1 v H1 q1 t1 f1 r1 p1 => ?_⟩
  obtain ⟨k, e, q1⟩ := q1
  refine ⟨k, truD_ok e p1 r1, ?_⟩
  cases k with
  | true => rw [if_pos rfl] at q1 ⊢; exact ⟨ρ, M1, F, Q0, s.next t1 f1 r1, q1, g.from t1 f1⟩
  | false => rw [if_neg Bool.false_ne_true] at q1 ⊢; exact g _ M1 v H1 q1 t1 f1 r1 p1
theorem pd_or {rest : List Expr} (ha : PE X a (tD X.K wa)) (hb : PE X (.BoolOp .Or (b :: rest) pos) (tD X.K wb)) : PE X (.BoolOp .Or (a :: b :: rest) pos) (tD X.K (wOrV wa wb)) := (pe_orT ha hb).imp fun σ H Q => by
  rintro ⟨ρ, M, F, Q0, s, q, g⟩
  refine ⟨ρ, M, F, _, s, q, fun x M1 v H1 q1 t1 f1 r1 p1 => ?_⟩
  obtain ⟨k, e, q1⟩ := q1
  refine ⟨k, truD_ok e p1 r1, ?_⟩
  cases k with
  | false => rw [if_neg Bool.false_ne_true] at q1 ⊢; exact ⟨ρ, M1, F, Q0, s.next t1 f1 r1, q1, g.from t1 f1⟩
  | true => rw [if_pos rfl] at q1 ⊢; exact g _ M1 v H1 q1 t1 f1 r1 p1
theorem pd_not (ha : PE X a (tD X.K wa)) : PE X (.UnaryOp .Not a pos) (tD X.K (wNotV wa)) := (pe_notT ha).imp fun σ H Q => by
  rintro ⟨ρ, M, F, Q0, s, q, g⟩
  refine ⟨ρ, M, F, _, s, q, fun x M1 v H1 q1 t1 f1 r1 p1 => ?_⟩
  obtain ⟨k, e, q1⟩ := q1
  exact ⟨k, truD_ok e p1 r1, g _ M1 _ H1 q1 t1 f1 r1 rfl⟩
def wIf (t : WT) (wa wb : WE) : WE := fun ρ M Q => t ρ M fun b M1 => if b = true then wa ρ M1 Q else wb ρ M1 Q
theorem pd_if {wt : WT} (hc : PT X c (tDT X.K wt)) (ha : PE X a (tD X.K wa)) (hb : PE X b (tD X.K wb)) : PE X (.IfExp c a b pos) (tD X.K (wIf wt wa wb)) := (pe_ifExp hc ha hb).imp fun σ H Q => by
  rintro ⟨ρ, M, F, Q0, s, q, g⟩
  refine ⟨ρ, M, F, _, s, q, fun b M1 H1 q1 t1 f1 r1 => ?_⟩
  cases b with
  | false => rw [if_neg Bool.false_ne_true] at q1 ⊢; exact ⟨ρ, M1, F, Q0, s.next t1 f1 r1, q1, g.from t1 f1⟩
  | true => rw [if_pos rfl] at q1 ⊢; exact ⟨ρ, M1, F, Q0, s.next t1 f1 r1, q1, g.from t1 f1⟩
def wNil : WA := fun _ M Q => Q [] M
def wCons (w : WE) (u : WA) : WA := fun ρ M Q => w ρ M fun d M1 => u ρ M1 fun ds M2 => Q (d :: ds) M2
theorem pda_nil : PA X [] (tDA X.K wNil) := pa_nil.imp fun σ H Q => by
  rintro ⟨ρ, M, F, Q0, s, q, g⟩
  exact g [] M [] H q (.refl _) s.fr.frm s.rm .nil
theorem pda_cons {es : List Expr} {u : WA} (ha : PE X a (tD X.K wa)) (hr : PA X es (tDA X.K u)) (hs : starEach (a :: es) X.env = (false, eval a X.env) :: starEach es X.env) : PA X (a :: es) (tDA X.K (wCons wa u)) := (pa_cons ha hr hs).imp fun σ H Q => by
  rintro ⟨ρ, M, F, Q0, s, q, g⟩
  refine ⟨ρ, M, F, _, s, q, fun x M1 v H1 q1 t1 f1 r1 p1 => ⟨ρ, M1, F, _, s.next t1 f1 r1, q1, fun ds M2 vs H2 q2 t2 f2 r2 p2 => ?_⟩⟩
  exact g _ M2 _ H2 q2 (t1.trans t2) (f1.trans f2) r2 (.cons (p1.stay t2) p2)
def wTup (u : WA) : WE := fun ρ M Q => u ρ M fun ds M1 => ds.length ≤ sizeLine ∧ Q (.tup ds) M1
def wLst (u : WA) : WE := fun ρ M Q => u ρ M fun ds M1 => ds.length ≤ sizeLine ∧ ∀ p, M1 p = none → Q (.ref p) (up M1 p (.lst ds))
theorem pd_tup {es : List Expr} {u : WA} {k : Nat} (h : PA X es (tDA X.K u)) : PE X (.Tuple es k pos) (tD X.K (wTup u)) := (pe_tup h).imp fun σ H Q => by
  rintro ⟨ρ, M, F, Q0, s, q, g⟩
  refine ⟨ρ, M, F, _, s, q, fun ds M1 vs H1 q1 t1 f1 r1 p1 => ⟨by rw [← p1.length]; exact q1.1, fun p hp => ?_⟩⟩
  refine (g.from t1 f1) _ M1 _ _ q1.2 (.new hp) ((s.fr.next f1).more hp) (r1.more hp) ?_
  unfold Rep
  exact ⟨p, vs, rfl, .of upd_same, p1.stay (.new hp)⟩
theorem pd_lst {es : List Expr} {u : WA} (h : PA X es (tDA X.K u)) : PE X (.List es pos) (tD X.K (wLst u)) := (pe_lst h).imp fun σ H Q => by
  rintro ⟨ρ, M, F, Q0, s, q, g⟩
  refine ⟨ρ, M, F, _, s, q, fun ds M1 vs H1 q1 t1 f1 r1 p1 => ⟨by rw [← p1.length]; exact q1.1, fun p hp => ?_⟩⟩
  exact (g.from t1 f1) _ _ _ _ (q1.2 p (r1.none hp)) (.new hp) ((s.fr.next f1).new hp _) (r1.new hp ⟨vs, upd_same, p1.stay (.new hp)⟩) rfl
def rDL (K : PySem.W.Frag) (f : Spec) : List V → Hp → VK → Prop := fun xs H Q => ∃ ds M F Q0, Reps K H ds xs ∧ RepM K H M ∧ FrOk F H M ∧ f ds M Q0 ∧ Go K F H Q0 Q
def wCall (f : Spec) (u : WA) : WE := fun ρ M Q => u ρ M fun ds M1 => f ds M1 Q
theorem callB_of {f : Spec} {u : WA} {σ : St} {H : Hp} {Q : VK} (h : tD K (wCall f u) σ H Q) : tCB (rDL K f) (tDA K u) σ H Q := by
  obtain ⟨ρ, M, F, Q0, s, q, g⟩ := h
  exact ⟨ρ, M, F, _, s, q, fun ds M1 vs H1 q1 t1 f1 r1 p1 => ⟨ds, M1, F, Q0, p1, r1, s.fr.next f1, q1, g.from t1 f1⟩⟩
end
end DL
namespace DL
open PySem PySem.Spec PyProof.Rows L2
theorem tuple_mul0 (l : Addr) (items : Array Value) (n : Nat) (dd : Option Addr) (sl : Array (Option Value)) (u : Tok) (c1 : items.isEmpty = false) :
    Meets (Builtin.«tuple.__mul__» ⟨[.ref l, .int 0 u], []⟩) (fun _ R s => s.heap.get? l = some { cls := .type "tuple", dict := dd, data := .seq items n, slots := sl } ∧
      R (.ok (.ret (Value.ref s.heap.objs.size))) { s with heap := s.heap.push { cls := Value.type "tuple", data := Data.seq #[] }, toks := s.toks }) :=
  .of_wp fun prog w A R s h => by
    obtain ⟨hp, g, d, tk, os⟩ := s
    obtain ⟨hl, h⟩ := h
    have f1 := AutoSeq1.idx_int
    wp_walk using wpAny_loadPart' hl
    repeat (first
      | exact ⟨_, rfl, h⟩
      | (refine wpAny_ite_false (decide_eq_false (by simp [c1])) ?_; wp_walk using wpAny_loadPart' hl)
      | (refine wpAny_ite_true (decide_eq_true (by simp [c1])) ?_; wp_walk using wpAny_loadPart' hl))
theorem tuple_mul1 (l : Addr) (items : Array Value) (n : Nat) (dd : Option Addr) (sl : Array (Option Value)) (u : Tok) :
    Meets (Builtin.«tuple.__mul__» ⟨[.ref l, .int 1 u], []⟩) (fun _ R s => s.heap.get? l = some { cls := .type "tuple", dict := dd, data := .seq items n, slots := sl } ∧ R (.ok (.ret (Value.ref l))) s) :=
  .of_wp fun prog w A R s h => by
    obtain ⟨hp, g, d, tk, os⟩ := s
    obtain ⟨hl, h⟩ := h
    have f1 := AutoSeq1.idx_int
    wp_walk using wpAny_loadPart' hl
    repeat (first
      | exact ⟨_, rfl, h⟩
      | (refine wpAny_ite_false (decide_eq_false (by simp)) ?_; wp_walk using wpAny_loadPart' hl)
      | (refine wpAny_ite_true (decide_eq_true (by simp)) ?_; wp_walk using wpAny_loadPart' hl))
def rRepA (K : PySem.W.Frag) : R2 := fun x y H Q => ∃ l k xs, x = .ref l ∧ y = .int k ∧ SqT K H l xs ∧ xs ≠ [] ∧ 0 ≤ k ∧ k ≤ 1000 ∧ xs.length ≤ 1000 ∧ (k = 1 → Q (.ref l) H) ∧ (k ≠ 1 → ∀ p, H p = none → Q (.ref p) (upd H p (.tup (List.replicate k.toNat xs).flatten)))
theorem op_repA {X : Cx} : OpR X (binaryOp .Mult) (rRepA X.K) := by
  intro pins s σ H x y v u Q I rx ry h
  obtain ⟨l, k, xs, rfl, rfl, hT, hne, h1, h2, hz, q1, q⟩ := h
  by_cases k2 : 2 ≤ k
  · exact op_repT pins s σ H _ _ v u Q I rx ry ⟨l, k, xs, rfl, rfl, hT, hne, k2, h2, hz, q (by omega)⟩
  cases rx
  obtain ⟨t, rfl⟩ := ry
  obtain ⟨its, r, ⟨⟨cls, dd, data, sl⟩, ho, hc, n, hd⟩, hs⟩ := I.tuple hT
  simp only at hc hd
  subst hc hd
  have hle : its.length = xs.length := r.length.symm
  have hn : its ≠ [] := fun e => hne (by
    rw [e] at hle
    exact List.eq_nil_of_length_eq_zero hle.symm)
  have hi : its.toArray.isEmpty = false := by
    cases its with
    | nil => exact absurd rfl hn
    | cons a b => rfl
  have two : k = 0 ∨ k = 1 := by omega
  rcases two with rfl | rfl
  · refine wpAny_binaryOp_repeat_ref (T := "tuple") (U := "int") (by decide) ⟨_, ho, rfl⟩ (fun s' => typeIs_int s' 0 t) noFill_tuple_mul F.fills_int_mul F.slot_int_rmul repeat_tuple F.slot_int_index.lookup
      (call_meets F.slot_int_rmul (typeIs_int s 0 t) F.entry_int_rmul (F.args_int_rmul_2 _ _) (int_rmul_tuple 0 t l its.toArray n dd sl)
        ⟨ho, rfl, ⟨_, ho, rfl⟩, call_meets F.slot_tuple_mul ⟨_, ho, rfl⟩ F.entry_tuple_mul (F.args_tuple_mul_2 _ _) (tuple_mul0 l its.toArray n dd sl t hi) ⟨ho, ?_⟩⟩)
    exact ⟨.ref s.heap.objs.size, _, I.laid (t' := s.toks) (o := .tup []) (fun b ob q => Heap.get?_push_of_some _ q) (Nat.le_refl _) ⟨Nat.zero_le _, [], .nil, IsTup.new _ _⟩, rfl, q (by decide) _ (I.hok.fresh (Nat.le_refl _))⟩
  · refine wpAny_binaryOp_repeat_ref (T := "tuple") (U := "int") (by decide) ⟨_, ho, rfl⟩ (fun s' => typeIs_int s' 1 t) noFill_tuple_mul F.fills_int_mul F.slot_int_rmul repeat_tuple F.slot_int_index.lookup
      (call_meets F.slot_int_rmul (typeIs_int s 1 t) F.entry_int_rmul (F.args_int_rmul_2 _ _) (int_rmul_tuple 1 t l its.toArray n dd sl)
        ⟨ho, rfl, ⟨_, ho, rfl⟩, call_meets F.slot_tuple_mul ⟨_, ho, rfl⟩ F.entry_tuple_mul (F.args_tuple_mul_2 _ _) (tuple_mul1 l its.toArray n dd sl t) ⟨ho, ?_⟩⟩)
    exact ⟨.ref l, H, I, rfl, q1 rfl⟩
end DL
namespace DL
open PySem L2
variable {K : PySem.W.Frag}
mutual
inductive Dat (M : Mp) : D → PyData → Prop
  | non : Dat M .non .none
  | bl (b : Bool) : Dat M (.bl b) (.bool b)
  | int (i : Int) : Dat M (.int i) (.int i)
  | str (x : Str) : Dat M (.str x) (.str x)
  | tup {ds : List D} {ps : List PyData} : Dats M ds ps → Dat M (.tup ds) (.tuple ps)
  | lst {a : Addr} {ds : List D} {ps : List PyData} : M a = some (.lst ds) → Dats M ds ps → Dat M (.ref a) (.list ps)
inductive Dats (M : Mp) : List D → List PyData → Prop
  | nil : Dats M [] []
  | cons {d : D} {p : PyData} {ds : List D} {ps : List PyData} : Dat M d p → Dats M ds ps → Dats M (d :: ds) (p :: ps)
end
mutual
theorem Dat.dp {M : Mp} {H : Hp} (m : RepM K H M) : ∀ {d : D} {p : PyData} {v : V}, Dat M d p → Rep K H d v → Dp K H v p
  | _, _, _, .non, r => by cases r; exact .non
  | _, _, _, .bl b, r => by cases r; exact .bl b
  | _, _, _, .int i, r => by cases r; exact .int i
  | _, _, _, .str x, r => by cases r; exact .str x
  | _, _, _, .tup h, r => by
    unfold Rep at r
    obtain ⟨a, vs, rfl, s, r⟩ := r
    exact .tup s (Dats.dp m h r)
  | _, _, _, .lst e h, r => by
    cases r
    obtain ⟨vs, e1, r⟩ := m _ _ e
    exact .lst (.of e1) (Dats.dp m h r)
theorem Dats.dp {M : Mp} {H : Hp} (m : RepM K H M) : ∀ {d : List D} {p : List PyData} {v : List V}, Dats M d p → Reps K H d v → DpAll K H v p
  | _, _, _, .nil, r => by unfold Reps at r; subst r; exact .nil
  | _, _, _, .cons h1 h2, r => by
    unfold Reps at r
    obtain ⟨v, vs, rfl, r1, r2⟩ := r
    exact .cons (Dat.dp m h1 r1) (Dats.dp m h2 r2)
end
mutual
def plain : D → Bool
  | .tup ds => plains ds
  | .ref _ => false
  | .ty _ => false
  | _ => true
def plains : List D → Bool
  | [] => true
  | d :: ds => plain d && plains ds
end
mutual
def py : D → PyData
  | .non => .none
  | .bl b => .bool b
  | .int i => .int i
  | .str x => .str x
  | .tup ds => .tuple (pys ds)
  | .ref _ => .none
  | .ty _ => .none
def pys : List D → List PyData
  | [] => []
  | d :: ds => py d :: pys ds
end
mutual
theorem Dat.plain {M : Mp} : ∀ {d : D}, DL.plain d = true → Dat M d (py d)
  | .non, _ => by unfold py; exact .non
  | .bl b, _ => by unfold py; exact .bl b
  | .int i, _ => by unfold py; exact .int i
  | .str x, _ => by unfold py; exact .str x
  | .tup ds, h => by unfold py; unfold DL.plain at h; exact .tup (Dats.plain h)
  | .ref _, h => by unfold DL.plain at h; cases h
  | .ty _, h => by unfold DL.plain at h; cases h
theorem Dats.plain {M : Mp} : ∀ {d : List D}, DL.plains d = true → Dats M d (pys d)
  | [], _ => by unfold pys; exact .nil
  | d :: ds, h => by
    unfold pys; unfold plains at h
    rw [Bool.and_eq_true] at h
    exact .cons (Dat.plain h.1) (Dats.plain h.2)
end
section
variable {X : Cx}
abbrev Ru (X : Cx) : Prop := X.A.units + 65 < cLine
def eqD (neg : Bool) : D → D → Mp → DQ → Prop := fun x y M Q => (∃ p q, Dat M x p ∧ Dat M y q ∧ SeqAt.shaped p = true ∧ SeqAt.shaped q = true ∧ Q (.bl (if neg then !PyData.eqv p q else PyData.eqv p q)) M) ∨
  ∃ a b : Str, x = .str a ∧ y = .str b ∧ Q (.bl (if neg then !decide (a = b) else decide (a = b))) M
theorem dec_strV {a b : Str} : decide (V.str a = V.str b) = decide (a = b) := by rw [Bool.eq_iff_iff]; simp
theorem od_eq (hu : Ru X) : OpR X (compareOp .Eq) (rD X.K (eqD false)) := fun pins s σ H x y v u Q I rx ry h => by
  obtain ⟨dx, dy, M, F, Q0, r1, r2, m, fr, ⟨p, q, h1, h2, s1, s2, hq⟩ | ⟨a, b, rfl, rfl, hq⟩, g⟩ := h
  · exact op_eqD (by have := hu; omega) pins s σ H x y v u Q I rx ry ⟨p, q, h1.dp m r1, h2.dp m r2, s1, s2, g _ M _ H hq (.refl _) fr.frm m rfl⟩
  · cases r1; cases r2
    exact op_eq pins s σ H _ _ v u Q I rx ry ⟨rfl, by rw [dec_strV]; exact g _ M _ H hq (.refl _) fr.frm m rfl⟩
theorem od_ne (hu : Ru X) : OpR X (compareOp .NotEq) (rD X.K (eqD true)) := fun pins s σ H x y v u Q I rx ry h => by
  obtain ⟨dx, dy, M, F, Q0, r1, r2, m, fr, ⟨p, q, h1, h2, s1, s2, hq⟩ | ⟨a, b, rfl, rfl, hq⟩, g⟩ := h
  · exact op_neD (by have := hu; omega) pins s σ H x y v u Q I rx ry ⟨p, q, h1.dp m r1, h2.dp m r2, s1, s2, g _ M _ H hq (.refl _) fr.frm m rfl⟩
  · cases r1; cases r2
    exact op_ne pins s σ H _ _ v u Q I rx ry ⟨rfl, by rw [dec_strV]; exact g _ M _ H hq (.refl _) fr.frm m rfl⟩
inductive Ord where | lt | le | gt | ge
def Ord.op : Ord → CmpOp | .lt => .Lt | .le => .LtE | .gt => .Gt | .ge => .GtE
def Ord.of (o : Ord) (p q : PyData) : Bool := match o with
  | .lt => PySem.W.dataLt p q | .le => !PySem.W.dataLt q p | .gt => PySem.W.dataLt q p | .ge => !PySem.W.dataLt p q
def ordD (o : Ord) : D → D → Mp → DQ → Prop := fun x y M Q => (∃ i j, x = .int i ∧ y = .int j ∧ Q (.bl (match o with | .lt => decide (i < j) | .le => decide (i ≤ j) | .gt => decide (j < i) | .ge => decide (j ≤ i))) M) ∨
  (∃ p q, Dat M x p ∧ Dat M y q ∧ PySem.W.alike p q = true ∧ p ≠ .none ∧ p.depth ≤ 64 ∧ Q (.bl (o.of p q)) M)
theorem od_ord (o : Ord) (hu : Ru X) : OpR X (compareOp o.op) (rD X.K (ordD o)) := fun pins s σ H x y v u Q I rx ry h => by
  obtain ⟨dx, dy, M, F, Q0, r1, r2, m, fr, h, g⟩ := h
  rcases h with ⟨i, j, rfl, rfl, hq⟩ | ⟨p, q, h1, h2, al, nn, dp, hq⟩
  · cases r1; cases r2
    have e := g _ M _ H hq (.refl _) fr.frm m rfl
    cases o
    · exact op_lt pins s σ H _ _ v u Q I rx ry ⟨i, j, rfl, rfl, e⟩
    · exact op_le pins s σ H _ _ v u Q I rx ry ⟨i, j, rfl, rfl, e⟩
    · exact op_gt pins s σ H _ _ v u Q I rx ry ⟨i, j, rfl, rfl, e⟩
    · exact op_ge pins s σ H _ _ v u Q I rx ry ⟨i, j, rfl, rfl, e⟩
  · obtain ⟨as, e1⟩ := Dp.reads I p x v (h1.dp m r1) rx
    obtain ⟨bs, e2⟩ := Dp.reads I q y u (h2.dp m r2) ry
    have hr : X.A.units + min p.depth q.depth < cLine := by have := hu; have := Nat.min_le_left p.depth q.depth; omega
    have e : EP X pins σ Q (.bool (o.of p q)) s := ⟨.bl (o.of p q), H, I, rfl, g _ M _ H hq (.refl _) fr.frm m rfl⟩
    cases o
    · exact PySem.W.lt_data e1 e2 al nn hr e
    · exact PySem.W.le_data e1 e2 al nn hr e
    · exact PySem.W.gt_data e1 e2 al nn hr e
    · exact PySem.W.ge_data e1 e2 al nn hr e
def negB (neg b : Bool) : Bool := if neg then !b else b
def keyD : D → Option Key
  | .int i => some (.inl i)
  | .str x => some (.inr x)
  | _ => none
def seqD (M : Mp) (y : D) (ds : List D) : Prop := y = .tup ds ∨ ∃ a, y = .ref a ∧ M a = some (.lst ds)
def inD (neg : Bool) : D → D → Mp → DQ → Prop := fun x y M Q =>
  (∃ p ds ps, Dat M x p ∧ seqD M y ds ∧ Dats M ds ps ∧ SeqAt.shaped p = true ∧ PyData.canLayAll0 ps = true ∧ Q (.bl (negB neg (ps.any fun z => PyData.eqv z p))) M) ∨
  (∃ (c : Nat) (z : Str), x = .str ⟨#[c]⟩ ∧ y = .str z ∧ Q (.bl (negB neg (decide (c ∈ z.cps.toList)))) M)
theorem od_in (neg : Bool) (hu : Ru X) : OpR X (compareOp (if neg then .NotIn else .In)) (rD X.K (inD neg)) := fun pins s σ H x y v u Q I rx ry h => by
  obtain ⟨dx, dy, M, F, Q0, r1, r2, m, fr, h, g⟩ := h
  rcases h with ⟨p, ds, ps, h1, h2, h3, s1, s2, hq⟩ | ⟨c, z, rfl, rfl, hq⟩
  · obtain ⟨as, e1⟩ := Dp.reads I p x v (h1.dp m r1) rx
    have hr : X.A.units + 1 + min (PyData.depthAll ps) p.depth < cLine := by
      have := hu; have := Nat.min_le_right (PyData.depthAll ps) p.depth; have := SeqAt.depth_of_shaped s1; omega
    have e : EP X pins σ Q (.bool (negB neg (ps.any fun z => PyData.eqv z p))) s := ⟨.bl _, H, I, rfl, g _ M _ H hq (.refl _) fr.frm m rfl⟩
    rcases h2 with rfl | ⟨a, rfl, ha⟩
    · obtain ⟨bs, e2⟩ := Dp.reads I (.tuple ps) y u ((Dat.tup h3).dp m r2) ry
      cases neg
      · exact SeqAt.in_tuple_reads e2 e1 s2 (SeqAt.canLay_of_shaped s1) hr e
      · exact SeqAt.notIn_tuple_reads e2 e1 s2 (SeqAt.canLay_of_shaped s1) hr e
    · obtain ⟨bs, e2⟩ := Dp.reads I (.list ps) y u ((Dat.lst ha h3).dp m r2) ry
      cases neg
      · exact SeqAt.in_list_reads e2 e1 s2 (SeqAt.canLay_of_shaped s1) hr e
      · exact SeqAt.notIn_list_reads e2 e1 s2 (SeqAt.canLay_of_shaped s1) hr e
  · cases r1; cases r2
    have e := g _ M _ H hq (.refl _) fr.frm m rfl
    cases neg
    · exact op_in_sign pins s σ H _ _ v u Q I rx ry ⟨c, z, rfl, rfl, e⟩
    · exact op_notIn_sign pins s σ H _ _ v u Q I rx ry ⟨c, z, rfl, rfl, e⟩
def isNon : D → Bool | .non => true | _ => false
def isD (neg : Bool) : D → D → Mp → DQ → Prop := fun x y M Q =>
  (y = .non ∧ Q (.bl (negB neg (isNon x))) M) ∨ (∃ a b : Bool, x = .bl a ∧ y = .bl b ∧ Q (.bl (negB neg (decide (a = b)))) M)
theorem od_is (neg : Bool) : OpR X (compareOp (if neg then .IsNot else .Is)) (rD X.K (isD neg)) := fun pins s σ H x y v u Q I rx ry h => by
  obtain ⟨dx, dy, M, F, Q0, r1, r2, m, fr, h, g⟩ := h
  rcases h with ⟨rfl, hq⟩ | ⟨a, b, rfl, rfl, hq⟩
  · cases r2
    have e0 : decide (x = V.non) = isNon dx := by
      cases dx <;> (try (cases r1; rfl))
      unfold Rep at r1
      obtain ⟨a, vs, rfl, _⟩ := r1
      rfl
    have e := g _ M _ H hq (.refl _) fr.frm m rfl
    cases neg
    · exact op_isN pins s σ H _ _ v u Q I rx ry ⟨rfl, by rw [e0]; exact e⟩
    · exact op_notN pins s σ H _ _ v u Q I rx ry ⟨rfl, by rw [e0]; exact e⟩
  · cases r1; cases r2
    have e := g _ M _ H hq (.refl _) fr.frm m rfl
    cases neg
    · exact op_isBl pins s σ H _ _ v u Q I rx ry ⟨a, b, rfl, rfl, e⟩
    · exact op_notBl pins s σ H _ _ v u Q I rx ry ⟨a, b, rfl, rfl, e⟩
def addD : D → D → Mp → DQ → Prop := fun x y M Q => match x, y with
  | .int i, .int j => Q (.int (i + j)) M
  | .str a, .str b => a.length + b.length ≤ sizeLine ∧ Q (.str (a ++ b)) M
  | .tup xs, .tup ys => xs.length + ys.length ≤ sizeLine ∧ Q (.tup (xs ++ ys)) M
  | .ref a, .ref b => ∃ xs ys, M a = some (.lst xs) ∧ M b = some (.lst ys) ∧ xs.length + ys.length ≤ sizeLine ∧ ∀ p, M p = none → Q (.ref p) (up M p (.lst (xs ++ ys)))
  | _, _ => False
theorem od_add : OpR X (binaryOp .Add) (rD X.K addD) := fun pins s σ H x y v u Q I rx ry h => by
  obtain ⟨dx, dy, M, F, Q0, r1, r2, m, fr, h, g⟩ := h
  cases dx <;> cases dy <;> (try exact h.elim)
  · cases r1; cases r2
    exact op_add pins s σ H _ _ v u Q I rx ry ⟨_, _, rfl, rfl, g _ M _ H h (.refl _) fr.frm m rfl⟩
  · cases r1; cases r2
    exact op_add_str pins s σ H _ _ v u Q I rx ry ⟨_, _, rfl, rfl, h.1, g _ M _ H h.2 (.refl _) fr.frm m rfl⟩
  · cases r1; cases r2
    obtain ⟨xs, ys, e1, e2, hz, h⟩ := h
    obtain ⟨vs, q1, p1⟩ := m _ _ e1
    obtain ⟨us, q2, p2⟩ := m _ _ e2
    refine op_cat pins s σ H _ _ v u Q I rx ry ⟨_, _, vs, us, rfl, rfl, q1, q2, by rw [← p1.length, ← p2.length]; exact hz, fun p hp => ?_⟩
    exact g _ _ _ _ (h p (m.none hp)) (.new hp) (fr.new hp _) (m.new hp ⟨_, upd_same, (p1.append p2).stay (.new hp)⟩) rfl
  · unfold Rep at r1 r2
    obtain ⟨a, vs, rfl, q1, p1⟩ := r1
    obtain ⟨b, us, rfl, q2, p2⟩ := r2
    refine op_catA pins s σ H _ _ v u Q I rx ry ⟨a, b, vs, us, rfl, rfl, q1, q2, by rw [← p1.length, ← p2.length]; exact h.1, fun e => ?_, fun e e2 => ?_, fun e e2 p hp => ?_⟩
    · refine g _ M _ H h.2 (.refl _) fr.frm m ?_
      subst e
      have e3 := p1.length
      rw [List.length_nil, List.length_eq_zero_iff] at e3
      subst e3
      unfold Rep
      exact ⟨b, us, rfl, q2, p2⟩
    · refine g _ M _ H h.2 (.refl _) fr.frm m ?_
      subst e2
      have e3 := p2.length
      rw [List.length_nil, List.length_eq_zero_iff] at e3
      subst e3
      rw [List.append_nil]
      unfold Rep
      exact ⟨a, vs, rfl, q1, p1⟩
    · refine g _ M _ _ h.2 (.new hp) (fr.more hp) (m.more hp) ?_
      unfold Rep
      exact ⟨p, _, rfl, .of upd_same, (p1.append p2).stay (.new hp)⟩
def intD (C : Int → Int → Prop) (f : Int → Int → Int) : D → D → Mp → DQ → Prop := fun x y M Q => ∃ i j, x = .int i ∧ y = .int j ∧ C i j ∧ Q (.int (f i j)) M
theorem od_int {op : Operator} {C : Int → Int → Prop} {f : Int → Int → Int} (h : OpR X (binaryOp op) (rI C fun i j => .int (f i j))) : OpR X (binaryOp op) (rD X.K (intD C f)) := fun pins s σ H x y v u Q I rx ry hh => by
  obtain ⟨dx, dy, M, F, Q0, r1, r2, m, fr, ⟨i, j, rfl, rfl, hc, hq⟩, g⟩ := hh
  cases r1; cases r2
  exact h pins s σ H _ _ v u Q I rx ry ⟨i, j, rfl, rfl, hc, g _ M _ H hq (.refl _) fr.frm m rfl⟩
theorem op_sub' : OpR X (binaryOp .Sub) (rI (fun _ _ => True) fun i j => .int (i - j)) := fun pins s σ H x y v u Q I rx ry h => by
  obtain ⟨i, j, e1, e2, _, q⟩ := h
  exact op_sub pins s σ H x y v u Q I rx ry ⟨i, j, e1, e2, q⟩
def repS (z : Str) (k : Nat) : Str := ⟨(List.replicate k z.cps).foldl (· ++ ·) #[]⟩
theorem op_repS : OpR X (binaryOp .Mult) (fun x y H Q => ∃ z k, x = .str z ∧ y = .int k ∧ 1 ≤ k ∧ k ≤ 1000 ∧ 1 ≤ z.length ∧ z.length ≤ 1000 ∧ Q (.str (repS z k.toNat)) H) := by
  intro pins s σ H x y v u Q I rx ry h
  obtain ⟨z, k, rfl, rfl, k0, k1, z0, z1, q⟩ := h
  obtain ⟨t, rfl⟩ := rx
  obtain ⟨t', rfl⟩ := ry
  have e0 : z.length * k.toNat ≤ 1000000 := Nat.le_trans (Nat.mul_le_mul z1 (show k.toNat ≤ 1000 by omega)) (by decide)
  refine P.mul_str ?_ (fun _ _ => ?_) (fun _ _ => ?_) ?_
  · rw [decide_eq_false (by omega), decide_eq_false (by omega)]; rfl
  · have : (9000000000000000 : Int) ≤ (2 ^ 63 - 1) / k := by
      rw [Int.le_ediv_iff_mul_le (by omega)]
      omega
    omega
  · unfold PySem.Builtin.Str.tooLong
    exact decide_eq_false (by have : (1000000 : Nat) < sizeLine := by decide
                              omega)
  · rw [if_neg (by omega)]
    by_cases e : (k == 1 || z.length == 0) = true
    · rw [if_pos e]
      rw [Bool.or_eq_true, beq_iff_eq, beq_iff_eq] at e
      have ek : k = 1 := by rcases e with e | e; exact e; omega
      subst ek
      have : repS z (1 : Int).toNat = z := by
        show (⟨(#[] : Array Nat) ++ z.cps⟩ : Str) = z
        rw [Array.empty_append]
      rw [this] at q
      exact ⟨.str z, H, I, ⟨_, rfl⟩, q⟩
    · rw [if_neg e]
      refine ⟨?_, ⟨.str (repS z k.toNat), H, I.tok _, ⟨_, rfl⟩, q⟩⟩
      have f0 : ∀ (m : Nat) (acc : Array Nat), (List.foldl (fun x1 x2 => x1 ++ x2) acc (List.replicate m z.cps)).size = acc.size + m * z.cps.size := fun m => by
        induction m with
        | zero => intro acc; simp
        | succ m ih => intro acc; rw [List.replicate_succ, List.foldl_cons, ih, Array.size_append, Nat.succ_mul]; omega
      show (List.foldl (fun x1 x2 => x1 ++ x2) #[] (List.replicate k.toNat z.cps)).size ≤ sizeLine
      rw [f0]
      have : (1000000 : Nat) < sizeLine := by decide
      have e1 : k.toNat * z.cps.size ≤ 1000000 := by rw [Nat.mul_comm]; exact e0
      have e2 : (#[] : Array Nat).size = 0 := rfl
      omega
def mulD : D → D → Mp → DQ → Prop := fun x y M Q => match x, y with
  | .int i, .int j => CMul i j ∧ Q (.int (i * j)) M
  | .str z, .int k => 1 ≤ k ∧ k ≤ 1000 ∧ 1 ≤ z.length ∧ z.length ≤ 1000 ∧ Q (.str (repS z k.toNat)) M
  | .ref a, .int k => ∃ xs, M a = some (.lst xs) ∧ 0 ≤ k ∧ k < 2 ^ 62 ∧ xs.length * k.toNat ≤ sizeLine ∧ ∀ p, M p = none → Q (.ref p) (up M p (.lst (List.replicate k.toNat xs).flatten))
  | .tup xs, .int k => xs ≠ [] ∧ 0 ≤ k ∧ k ≤ 1000 ∧ xs.length ≤ 1000 ∧ Q (.tup (List.replicate k.toNat xs).flatten) M
  | _, _ => False
theorem Reps.times {H : Hp} {ds : List D} {vs : List V} (r : Reps K H ds vs) : ∀ n : Nat, Reps K H (List.replicate n ds).flatten (List.replicate n vs).flatten
  | 0 => by rw [List.replicate_zero, List.replicate_zero]; exact .nil
  | n + 1 => by rw [List.replicate_succ, List.replicate_succ, List.flatten_cons, List.flatten_cons]; exact r.append (r.times n)
theorem od_mul : OpR X (binaryOp .Mult) (rD X.K mulD) := fun pins s σ H x y v u Q I rx ry h => by
  obtain ⟨dx, dy, M, F, Q0, r1, r2, m, fr, h, g⟩ := h
  cases dx <;> cases dy <;> (try exact h.elim)
  · cases r1; cases r2
    exact op_mul pins s σ H _ _ v u Q I rx ry ⟨_, _, rfl, rfl, h.1, g _ M _ H h.2 (.refl _) fr.frm m rfl⟩
  · cases r1; cases r2
    obtain ⟨k0, k1, z0, z1, h⟩ := h
    exact op_repS pins s σ H _ _ v u Q I rx ry ⟨_, _, rfl, rfl, k0, k1, z0, z1, g _ M _ H h (.refl _) fr.frm m rfl⟩
  · cases r1; cases r2
    obtain ⟨xs, e1, k0, k1, hz, h⟩ := h
    obtain ⟨vs, q1, p1⟩ := m _ _ e1
    refine op_rep pins s σ H _ _ v u Q I rx ry ⟨_, _, vs, rfl, rfl, q1, by omega, by omega, by rw [← p1.length]; exact hz, fun p hp => ?_⟩
    exact g _ _ _ _ (h p (m.none hp)) (.new hp) (fr.new hp _) (m.new hp ⟨_, upd_same, (p1.times _).stay (.new hp)⟩) rfl
  · rename_i xs k
    cases r2
    obtain ⟨hn, k0, k1, hz, h⟩ := h
    unfold Rep at r1
    obtain ⟨l, vs, rfl, sq, p1⟩ := r1
    have el := p1.length
    refine op_repA pins s σ H _ _ v u Q I rx ry ⟨l, k, vs, rfl, rfl, sq, fun e => hn (List.eq_nil_of_length_eq_zero (by rw [el, e]; rfl)), k0, k1, by rw [← el]; exact hz, fun e => ?_, fun _ p hp => ?_⟩
    · subst e
      have e1 : (List.replicate (1 : Int).toNat xs).flatten = xs := by show (List.replicate 1 xs).flatten = xs; simp
      rw [e1] at h
      exact g _ M _ H h (.refl _) fr.frm m (by unfold Rep; exact ⟨l, vs, rfl, sq, p1⟩)
    · exact g _ M _ _ h (.new hp) (fr.more hp) (m.more hp) (by unfold Rep; exact ⟨p, _, rfl, .of upd_same, (p1.times _).stay (.new hp)⟩)
end
end DL
namespace DL
open PySem PySem.W PySem.SeqAt PySem.Calls PyProof.Rows
section
variable {prog : Program} {w : World} {A : Around} {E : Value → Shared → Prop} {s : Shared}
theorem call_tuple_lt' {Q : Value → Shared → Prop} {l b : Addr} {items items2 : Array Value} {e r : Nat → Bool} (hl : s.heap.IsTuple l items) (hb : s.heap.IsTuple b items2)
    (he : ∀ j (h1 : j < items.size) (h2 : j < items2.size), EqAt A.in1 s items[j] items2[j] (e j)) (hr : ∀ j (h1 : j < items.size) (h2 : j < items2.size), e j = false → RcLt A.in1 s items[j] items2[j] (r j))
    (h : Q (.bool (firstLt e r (decide (items.size < items2.size)) (List.range (min items.size items2.size)))) s) : wpAny (model prog w) A (call (.builtin "tuple.__lt__") [.ref l, .ref b]) Q E s := by
  obtain ⟨⟨cls, dd, data, sl⟩, ho, hc, n, hd⟩ := id hl
  obtain ⟨⟨cls2, dd2, data2, sl2⟩, ho2, hc2, n2, hd2⟩ := id hb
  simp only at hc hd hc2 hd2
  subst hc hd hc2 hd2
  exact call_meets F.slot_tuple_lt ⟨_, ho, rfl⟩ F.entry_tuple_lt (F.args_tuple_lt_2 _ _) (tuple_ltAt l b items items2 n n2 dd dd2 sl sl2 e r) ⟨ho, ho2, he, hr, h⟩
theorem oneLt_tup {xs ys : List PyData} {a b : Value} {as bs : List Addr} {Q : Bool → Shared → Prop} (ra : Reads s.heap a (.tuple xs) as) (rb : Reads s.heap b (.tuple ys) bs) (hal : alikeAll xs ys = true)
    (hu : A.units + min (PyData.tuple xs).depth (PyData.tuple ys).depth < cLine) (hq : Q (dataLt (.tuple xs) (.tuple ys)) s) : wpAny (model prog w) A (oneLt' true a b) Q E s := by
  cases ra with
  | @tuple l o vs n _ as₁ h1 h2 h3 h4 =>
    cases rb with
    | @tuple l' o' vs' n' _ bs₁ k1 k2 k3 k4 =>
      have n1 : vs.size = xs.length := by simpa using ReadsAll.length _ _ _ h4
      have n2 : vs'.size = ys.length := by simpa using ReadsAll.length _ _ _ k4
      rw [dataLt_tuple, ← firstLt_toks xs ys hal, ← n1, ← n2] at hq
      rw [oneLt'_eq]
      simp only [if_true]
      refine wpAny_bind (wpAny_cRoomFor (room_here hu) ?_)
      refine wpAny_bind (wpAny_callSpecialIfBound?_slot (T := "tuple") ⟨_, h1, h2⟩ F.slot_tuple_lt (call_tuple_lt' (e := pairEq xs ys) (r := fun j => dataLt (xs.getD j .none) (ys.getD j .none)) ⟨_, h1, h2, _, h3⟩ ⟨_, k1, k2, _, k3⟩ (fun j j1 j2 => ?_) (fun j j1 j2 hj => ?_) ?_))
      · have := eqAt_alikeAll xs ys A.in1 s vs.toList vs'.toList _ _ h4 k4 hal (room_in hu) j (by simpa using j1) (by simpa using j2)
        simpa using this
      · have := rcLt_alikeAll xs ys A.in1 s vs.toList vs'.toList _ _ h4 k4 hal (room_in hu) j (by simpa using j1) (by simpa using j2) hj
        simpa using this
      · exact wpAny_truthy_bool hq
theorem firsts_any {M : Model} : ∀ (vs : List Value) (ds : List PyData), EachIs (fun v d => ∃ as, Reads s.heap v d as) vs ds → (∀ d ∈ ds, ∃ xs, d = .tuple xs) →
    ∃ fs : List (Option Value), (∀ rest, ds = .tuple [] :: rest → ∃ r, fs = none :: r) ∧ ∀ Q : List (Option Value) → Shared → Prop, Q fs s → wpAny M A (vs.mapM firstOfTuple') Q E s
  | _, _, .nil, _ => ⟨[], fun r e => (by cases e), fun Q h => by rw [List.mapM_nil]; exact wpAny_pure h⟩
  | _, _, .cons (a := v) (b := d) (as := vs) (bs := ds) ⟨as, r⟩ t, ht => by
    obtain ⟨fs, _, f2⟩ := firsts_any (M := M) vs ds t fun d hd => ht d (List.mem_cons_of_mem _ hd)
    obtain ⟨xs, rfl⟩ := ht _ List.mem_cons_self
    cases r with
    | @tuple a o us n _ _ ho hc hd hr =>
      refine ⟨us[0]? :: fs, fun rest e => ?_, fun Q h => ?_⟩
      · cases e
        have e0 : us.toList = [] := by
          generalize us.toList = z at hr
          cases hr
          rfl
        have e1 : us = #[] := by simpa using e0
        subst e1
        exact ⟨fs, rfl⟩
      · rw [List.mapM_cons]
        refine wpAny_bind ?_
        rw [kas_first_eq]
        refine wpAny_bind (Looks.here (show Looks M s.heap (typeOf (.ref a)) o.cls from (Looks.ld ho).andThen .now) ?_)
        rw [hc, if_neg (by first | decide | simp)]
        refine wpAny_bind (listItems_at ho hd (wpAny_pure ?_))
        exact wpAny_bind (f2 _ (wpAny_pure h))
theorem kind_one {M : Model} {vs : List Value} {rest : List PyData} {Q : SortKind → Shared → Prop} (e : EachIs (fun v d => ∃ as, Reads s.heap v d as) vs (.tuple [] :: rest)) (ht : ∀ d ∈ PyData.tuple [] :: rest, ∃ xs, d = .tuple xs) (h : Q oneType' s) :
    wpAny M A (keyKind' vs.toArray) Q E s := by
  obtain ⟨fs, f1, f2⟩ := firsts_any (M := M) (A := A) (E := E) vs _ e ht
  obtain ⟨r, rfl⟩ := f1 rest rfl
  have hT : ∀ v ∈ vs, Looks M s.heap (typeOf v) (.type "tuple") := fun v hv => by
    obtain ⟨d, hd, as, rd⟩ := e.left v hv
    obtain ⟨xs, rfl⟩ := ht d hd
    exact looks_reads rd
  cases e with
  | @cons v₁ _ vs' _ hv t =>
  rw [kat_kind_eq, List.mapM_toArray, map_eq_pure_bind]
  refine wpAny_bind (wpAny_bind (f2 _ (wpAny_pure ?_)))
  rw [if_neg (by simp), if_neg (by simp)]
  rw [oneTypeOnly'_eq, List.mapM_toArray, map_eq_pure_bind]
  refine wpAny_bind (wpAny_bind (wpAny_bind (kas_mapM (r := Value.type "tuple") _ (fun v hv Q' hq => (hT v hv).here hq) (wpAny_pure ?_))))
  have hall : ((List.map (fun _ => Value.type "tuple") (v₁ :: vs')).toArray.all fun x => x == Value.type "tuple") = true := by
    simp only [List.all_toArray, List.all_map, List.all_eq_true]
    intro _ _
    exact beq_self_eq_true _
  have h0 : (List.map (fun _ => Value.type "tuple") (v₁ :: vs')).toArray[0]? = some (.type "tuple") := by simp
  rw [h0]
  simp only [hall, if_true]
  exact wpAny_pure (wpAny_pure h)
theorem sorts0 {vs : List Value} {rest : List PyData} (e : EachIs (fun v d => ∃ as, Reads s.heap v d as) vs (.tuple [] :: rest)) (hal : AllAlike (.tuple [] :: rest)) (ht : ∀ d ∈ PyData.tuple [] :: rest, ∃ xs, d = .tuple xs) (hu : ∀ d, d ∈ PyData.tuple [] :: rest → A.units + d.depth < cLine) :
    SortsAt prog w A s (dataKind s.heap (.tuple [] :: rest)) vs := by
  refine ⟨fun v hv => ?_, oneType', ?_, fun h2 E Q hq => kind_one e ht hq⟩
  · obtain ⟨d, hd, as, r⟩ := e.left v hv
    exact ⟨_, dataKind_some hal hd r⟩
  · intro E x y a b Q ha hb hq
    obtain ⟨d, as, hd, ra, rfl⟩ := dataKind_inv ha
    obtain ⟨d', as', hd', rb, rfl⟩ := dataKind_inv hb
    rw [keyLt'_oneType]
    have hdd := hal d hd d' hd'
    have hroom : A.units + min d.depth d'.depth < cLine := Nat.lt_of_le_of_lt (Nat.add_le_add_left (Nat.min_le_left _ _) _) (hu d hd)
    obtain ⟨xs, rfl⟩ := ht d hd
    obtain ⟨ys, rfl⟩ := ht d' hd'
    exact oneLt_tup ra rb (by simpa [alike] using hdd) hroom hq
theorem sorted_data0 {β : Type} {vs : List Value} {b0 : β} {bs : List β} {enc : β → PyData} {R : Value → β → Prop} {l : Addr} {Q : Value → Shared → Prop} (hl : s.heap.IsList l vs.toArray) (e : EachIs R vs (b0 :: bs)) (er : EachIs (fun v b => ∃ as, Reads s.heap v (enc b) as) vs (b0 :: bs)) (hal : AllAlike ((b0 :: bs).map enc))
    (h0 : enc b0 = .tuple []) (ht : ∀ b ∈ bs, ∃ xs, enc b = .tuple xs) (hL : (b0 :: bs).length ≤ sizeLine) (hu : ∀ b, b ∈ b0 :: bs → A.units + 2 + (enc b).depth < cLine)
    (h : ∀ out, out.length = (b0 :: bs).length → EachIs R out ((b0 :: bs).mergeSort (dataLe false enc)) → Q (.ref (s.heap.objs.size + 1)) { s with heap := sortedAll s.heap vs (List.toArray out) }) :
    wpAny (model prog w) A (call (.builtin "sorted") [.ref l]) Q E s := by
  have er' : EachIs (fun v b => ∃ as, Reads (sortingHeap (copyHeap s.heap vs) (s.heap.objs.size + 1) vs) v (enc b) as) vs (b0 :: bs) := er.mono fun _ _ ⟨as, r⟩ => ⟨as, PyProof.Rows.Reads.keeps (fun _ _ => sorting_copy_old) r⟩
  have ht' : ∀ d ∈ PyData.tuple [] :: bs.map enc, ∃ xs, d = .tuple xs := fun d hd => by
    rcases List.mem_cons.mp hd with rfl | hd
    · exact ⟨[], rfl⟩
    · obtain ⟨b, hb, rfl⟩ := List.mem_map.mp hd
      exact ht b hb
  have em : (b0 :: bs).map enc = .tuple [] :: bs.map enc := by rw [List.map_cons, h0]
  have S : SortsAt prog w A.in1.in1 { s with heap := sortingHeap (copyHeap s.heap vs) (s.heap.objs.size + 1) vs } (dataKind (sortingHeap (copyHeap s.heap vs) (s.heap.objs.size + 1) vs) (.tuple [] :: bs.map enc)) vs := by
    refine sorts0 (s := { s with heap := sortingHeap (copyHeap s.heap vs) (s.heap.objs.size + 1) vs }) ?_ (by rw [← em]; exact hal) ht' ?_
    · rw [← em]; exact each_map (R := fun v d => ∃ as, Reads (sortingHeap (copyHeap s.heap vs) (s.heap.objs.size + 1) vs) v d as) enc er'
    · rw [← em]; exact bound_map hu
  rw [← em] at S
  exact sorted_vals hl S (by rw [e.length]; exact hL) (h _ (by rw [sortVals_length false rfl]; exact e.length) (sortVals_data false e er' hal))
end
end DL
namespace DL
open PySem L2
variable {K : PySem.W.Frag}
section
variable {X : Cx} {a b c : Expr} {wa wb wc : WE} {pos : Pos}
def ixD : D → D → Mp → DQ → Prop := fun x y M Q =>
  (∃ ds i d, seqD M x ds ∧ y = .int i ∧ atI ds i = some d ∧ Q d M) ∨
  (∃ z i c, x = .str z ∧ y = .int i ∧ z.length ≤ sizeLine ∧ atI z.cps.toList i = some c ∧ Q (.str ⟨#[c]⟩) M) ∨
  (∃ p ns i n, x = .ref p ∧ M p = some (.scr ns) ∧ y = .int i ∧ atI ns i = some n ∧ Q (.int n) M)
theorem Reps.atI {H : Hp} {ds : List D} {vs : List V} {i : Int} {d : D} (r : Reps K H ds vs) (h : L2.atI ds i = some d) : ∃ v, L2.atI vs i = some v ∧ Rep K H d v := by
  unfold L2.atI at h ⊢
  rw [← r.length]
  cases e : ixN ds.length i with
  | none => rw [e] at h; cases h
  | some j =>
    rw [e] at h
    exact r.get h
theorem ixd : IxR X (rD X.K ixD) := fun value slice pins s σ H x y v u Q I rx ry h hs => by
  obtain ⟨dx, dy, M, F, Q0, r1, r2, m, fr, h, g⟩ := h
  rcases h with ⟨ds, i, d, sq, rfl, e, hq⟩ | ⟨z, i, c, rfl, rfl, hz, e, hq⟩ | ⟨p, ns, i, n, rfl, e0, rfl, e, hq⟩
  · cases r2
    rcases sq with rfl | ⟨p, rfl, e0⟩
    · unfold Rep at r1
      obtain ⟨p, vs, rfl, q1, p1⟩ := r1
      obtain ⟨w, e1, rw⟩ := p1.atI e
      exact ix_tup value slice pins s σ H _ _ v u Q I rx ry ⟨p, vs, i, w, rfl, rfl, q1, e1, g _ M _ H hq (.refl _) fr.frm m rw⟩ hs
    · cases r1
      obtain ⟨vs, q1, p1⟩ := m _ _ e0
      obtain ⟨w, e1, rw⟩ := p1.atI e
      exact ix_list value slice pins s σ H _ _ v u Q I rx ry ⟨p, vs, i, w, rfl, rfl, .of q1, e1, g _ M _ H hq (.refl _) fr.frm m rw⟩ hs
  · cases r1; cases r2
    exact ix_str value slice pins s σ H _ _ v u Q I rx ry ⟨z, i, c, rfl, rfl, hz, e, g _ M _ H hq (.refl _) fr.frm m rfl⟩ hs
  · cases r1; cases r2
    obtain ⟨o, q1⟩ := m _ _ e0
    have p1 : Reps X.K H (ns.map D.int) (ns.map V.int) := .ints ns
    have e' : L2.atI (ns.map D.int) i = some (.int n) := by
      unfold L2.atI at e ⊢
      rw [List.length_map]
      cases q : ixN ns.length i with
      | none => rw [q] at e; cases e
      | some j => rw [q] at e; show (ns.map D.int)[j]? = _; rw [List.getElem?_map, show ns[j]? = some n from e]; rfl
    obtain ⟨w, e1, rw⟩ := p1.atI e'
    exact ix_list value slice pins s σ H _ _ v u Q I rx ry ⟨p, _, i, w, rfl, rfl, .inl (.inr ⟨o, q1⟩), e1, g _ M _ H hq (.refl _) fr.frm m rw⟩ hs
theorem pd_ix (ha : PE X a (tD X.K wa)) (hb : PE X b (tD X.K wb)) (hs : PlainIx b) : PE X (.Subscript a b pos) (tD X.K (w2 ixD wa wb)) :=
  (pe_ix ixd ha hb hs).imp fun _ _ _ h => two h
abbrev WO := Ro → Mp → (Option Int → Mp → Prop) → Prop
def GoO (K : PySem.W.Frag) (F : Addr → Prop) (H : Hp) (Q0 : Option Int → Mp → Prop) (Q : Option Int → Hp → Prop) : Prop := ∀ o M' H', Q0 o M' → TupS K H H' → Frm F H H' M' → RepM K H' M' → Q o H'
def tDO (K : PySem.W.Frag) (w : WO) : TO := fun σ H Q => ∃ ρ M F Q0, Stt K H σ ρ M F ∧ w ρ M Q0 ∧ GoO K F H Q0 Q
theorem _root_.L2.PO.imp {e : Option Expr} {t t' : TO} (h : PO X e t) (i : ∀ σ H Q, t' σ H Q → t σ H Q) : PO X e t' := ⟨fun pins s σ H Q I q => h.run pins s σ H Q I (i σ H Q q)⟩
def wO0 : WO := fun _ M Q => Q none M
def wO1 (w : WE) : WO := fun ρ M Q => w ρ M fun d M1 => ∃ i, d = .int i ∧ Q (some i) M1
theorem pdo_none : PO X none (tDO X.K wO0) := po_none.imp fun σ H Q => by
  rintro ⟨ρ, M, F, Q0, s, q, g⟩
  exact g _ M H q (.refl _) s.fr.frm s.rm
theorem pdo_some (h : PE X a (tD X.K wa)) : PO X (some a) (tDO X.K (wO1 wa)) := (po_some h).imp fun σ H Q => by
  rintro ⟨ρ, M, F, Q0, s, q, g⟩
  refine ⟨ρ, M, F, _, s, q, fun x M1 v H1 q1 t1 f1 r1 p1 => ?_⟩
  obtain ⟨i, rfl, q1⟩ := q1
  exact ⟨i, p1, g _ M1 H1 q1 t1 f1 r1⟩
def cutL {α : Type} (xs : List α) (lo hi : Option Int) : List α := (xs.drop (HT.sIx xs.length 0 lo)).take (HT.sIx xs.length xs.length hi - HT.sIx xs.length 0 lo)
def slD : D → Option Int → Option Int → Mp → DQ → Prop := fun x lo hi M Q => match x with
  | .tup ds => Q (.tup (cutL ds lo hi)) M
  | .str z => z.length ≤ sizeLine ∧ Q (.str (cutS z lo hi)) M
  | .ref p => ∃ ds, M p = some (.lst ds) ∧ ∀ l, M l = none → Q (.ref l) (up M l (.lst (cutL ds lo hi)))
  | _ => False
def rDS (K : PySem.W.Frag) (f : D → Option Int → Option Int → Mp → DQ → Prop) : V → Option Int → Option Int → Hp → VK → Prop := fun x lo hi H Q => ∃ dx M F Q0, Rep K H dx x ∧ RepM K H M ∧ FrOk F H M ∧ f dx lo hi M Q0 ∧ Go K F H Q0 Q
theorem Reps.cut {H : Hp} {ds : List D} {vs : List V} (r : Reps K H ds vs) (lo hi : Option Int) : Reps K H (cutL ds lo hi) (cutV vs lo hi) := by
  unfold cutL cutV
  rw [r.length]
  exact (r.drop _).take _
theorem cut_all {α : Type} {xs : List α} {lo hi : Option Int} (h : HT.sIx xs.length 0 lo = 0 ∧ HT.sIx xs.length xs.length hi = xs.length) : cutL xs lo hi = xs := by
  unfold cutL
  rw [h.1, h.2, List.drop_zero, Nat.sub_zero, List.take_length]
theorem sld : SlR X (rDS X.K slD) := fun pins s σ H x v vl vu lo hi sl Q I rx hs pl pu h => by
  obtain ⟨dx, M, F, Q0, r1, m, fr, h, g⟩ := h
  cases dx <;> (try exact h.elim)
  · cases r1
    exact sl_str pins s σ H _ v vl vu lo hi sl Q I rx hs pl pu ⟨_, rfl, h.1, g _ M _ H h.2 (.refl _) fr.frm m rfl⟩
  · cases r1
    obtain ⟨ds, e0, h⟩ := h
    obtain ⟨vs, q1, p1⟩ := m _ _ e0
    exact sl_list pins s σ H _ v vl vu lo hi sl Q I rx hs pl pu ⟨_, vs, rfl, .of q1, fun p hp => g _ _ _ _ (h p (m.none hp)) (.new hp) (fr.new hp _) (m.new hp ⟨_, upd_same, (p1.cut lo hi).stay (.new hp)⟩) rfl⟩
  · unfold Rep at r1
    obtain ⟨p, vs, rfl, q1, p1⟩ := r1
    have el := p1.length
    refine sl_tupA pins s σ H _ v vl vu lo hi sl Q I rx hs pl pu ⟨p, vs, rfl, q1, fun e => ?_, fun _ l hl => ?_⟩
    · refine g _ M _ H h (.refl _) fr.frm m ?_
      rw [cut_all (by rw [el]; exact e)]
      unfold Rep
      exact ⟨p, vs, rfl, q1, p1⟩
    · refine g _ M _ _ h (.new hl) (fr.more hl) (m.more hl) ?_
      unfold Rep
      exact ⟨l, _, rfl, .of upd_same, (p1.cut lo hi).stay (.new hl)⟩
def wSl (wa : WE) (wl wh : WO) : WE := fun ρ M Q => wa ρ M fun x M1 => wl ρ M1 fun l M2 => wh ρ M2 fun h M3 => slD x l h M3 Q
theorem pd_slice {lo hi : Option Expr} {wl wh : WO} {p2 : Pos} (ha : PE X a (tD X.K wa)) (hl : PO X lo (tDO X.K wl)) (hh : PO X hi (tDO X.K wh)) : PE X (.Subscript a (.Slice lo hi none p2) pos) (tD X.K (wSl wa wl wh)) :=
  (pe_slice sld ha hl hh).imp fun σ H Q => by
    rintro ⟨ρ, M, F, Q0, s, q, g⟩
    refine ⟨ρ, M, F, _, s, q, fun x M1 v H1 q1 t1 f1 r1 p1 => ?_⟩
    refine ⟨ρ, M1, F, _, s.next t1 f1 r1, q1, fun l M2 H2 q2 t2 f2 r2 => ?_⟩
    refine ⟨ρ, M2, F, _, (s.next t1 f1 r1).next t2 f2 r2, q2, fun h M3 H3 q3 t3 f3 r3 => ?_⟩
    exact ⟨x, M3, F, Q0, p1.stay (t2.trans t3), r3, ((s.fr.next f1).next f2).next f3, q3, ((g.from t1 f1).from t2 f2).from t3 f3⟩
theorem _root_.L2.CallR.lift {f : Value} {r : List V → Hp → VK → Prop} {S : Spec} (h : CallR X f r) (i : ∀ ds M F H Q0 Q vs, Reps X.K H ds vs → RepM X.K H M → FrOk F H M → S ds M Q0 → Go X.K F H Q0 Q → r vs H Q) : CallR X f (rDL X.K S) :=
  fun pins s σ H xs us Q I rv hh => by
    obtain ⟨ds, M, F, Q0, r1, m, fr, hs, g⟩ := hh
    exact h pins s σ H xs us Q I rv (i ds M F H Q0 Q xs r1 m fr hs g)
theorem Reps.one {H : Hp} {d : D} {vs : List V} (r : Reps K H [d] vs) : ∃ v, vs = [v] ∧ Rep K H d v := by
  unfold Reps at r
  obtain ⟨v, q, rfl, r1, r2⟩ := r
  unfold Reps at r2
  subst r2
  exact ⟨v, rfl, r1⟩
theorem Reps.two {H : Hp} {d e : D} {vs : List V} (r : Reps K H [d, e] vs) : ∃ v u, vs = [v, u] ∧ Rep K H d v ∧ Rep K H e u := by
  unfold Reps at r
  obtain ⟨v, q, rfl, r1, r2⟩ := r
  obtain ⟨u, rfl, r3⟩ := r2.one
  exact ⟨v, u, rfl, r1, r3⟩
def lenOf (d : D) (M : Mp) (n : Nat) : Prop := match d with
  | .tup ds => n = ds.length
  | .str z => z.length ≤ sizeLine ∧ n = z.length
  | .ref a => (∃ ds, M a = some (.lst ds) ∧ n = ds.length) ∨ ∃ ns, M a = some (.scr ns) ∧ n = ns.length
  | _ => False
def lenS : Spec := fun ds M Q => ∃ d n, ds = [d] ∧ lenOf d M n ∧ Q (.int (n : Nat)) M
theorem cd_len : CallR X (.builtin "len") (rDL X.K lenS) := call_len.lift fun ds M F H Q0 Q vs r m fr h g => by
  obtain ⟨d, n, rfl, h, q⟩ := h
  obtain ⟨v, rfl, rr⟩ := r.one
  refine ⟨v, n, rfl, ?_, g _ M _ H q (.refl _) fr.frm m rfl⟩
  cases d <;> (try exact h.elim)
  · cases rr; exact h
  · cases rr
    rcases h with ⟨ds, e, h⟩ | ⟨ns, e, h⟩
    · obtain ⟨vs, q1, p1⟩ := m _ _ e
      exact .inl ⟨vs, .of q1, by rw [h, p1.length]⟩
    · obtain ⟨o, q1⟩ := m _ _ e
      exact .inl ⟨_, .inl (.inr ⟨o, q1⟩), by rw [h, List.length_map]⟩
  · unfold Rep at rr
    obtain ⟨p, vs, rfl, q1, p1⟩ := rr
    exact .inr ⟨vs, q1, by rw [← p1.length]; exact h⟩
def tupleS : Spec := fun ds M Q => ∃ d xs, ds = [d] ∧ seqD M d xs ∧ Q (.tup xs) M
theorem cd_tuple : CallR X (.type "tuple") (rDL X.K tupleS) := call_tuple_of.lift fun ds M F H Q0 Q vs r m fr h g => by
  obtain ⟨d, xs, rfl, h, q⟩ := h
  obtain ⟨v, rfl, rr⟩ := r.one
  rcases h with rfl | ⟨a, rfl, e⟩
  · have r0 := rr
    unfold Rep at rr
    obtain ⟨p, vs, rfl, q1, p1⟩ := rr
    exact ⟨p, vs, rfl, .inr ⟨q1, g _ M _ H q (.refl _) fr.frm m r0⟩⟩
  · cases rr
    obtain ⟨vs, q1, p1⟩ := m _ _ e
    refine ⟨a, vs, rfl, .inl ⟨.of q1, fun l hl => ?_⟩⟩
    refine g _ M _ _ q (.new hl) (fr.more hl) (m.more hl) ?_
    unfold Rep
    exact ⟨l, vs, rfl, .of upd_same, p1.stay (.new hl)⟩
def listS0 : Spec := fun ds M Q => ∃ d xs, ds = [d] ∧ seqD M d xs ∧ ∀ p, M p = none → Q (.ref p) (up M p (.lst xs))
theorem cd_list0 : CallR X (.type "list") (rDL X.K listS0) := call_list_of.lift fun ds M F H Q0 Q vs r m fr h g => by
  obtain ⟨d, xs, rfl, h, q⟩ := h
  obtain ⟨v, rfl, rr⟩ := r.one
  rcases h with rfl | ⟨a, rfl, e⟩
  · unfold Rep at rr
    obtain ⟨p, vs, rfl, q1, p1⟩ := rr
    exact ⟨p, vs, rfl, .inr q1, fun l hl => g _ _ _ _ (q l (m.none hl)) (.new hl) (fr.new hl _) (m.new hl ⟨_, upd_same, p1.stay (.new hl)⟩) rfl⟩
  · cases rr
    obtain ⟨vs, q1, p1⟩ := m _ _ e
    exact ⟨a, vs, rfl, .inl (.of q1), fun l hl => g _ _ _ _ (q l (m.none hl)) (.new hl) (fr.new hl _) (m.new hl ⟨_, upd_same, p1.stay (.new hl)⟩) rfl⟩
def strL (x : Str) : List D := x.cps.toList.map fun c => .str ⟨#[c]⟩
def listT : Spec := fun ds M Q => ∃ x, ds = [.str x] ∧ x.length ≤ sizeLine ∧ ∀ p, M p = none → Q (.ref p) (up M p (.lst (strL x)))
theorem reps_strs {H : Hp} : ∀ cs : List Nat, Reps K H (cs.map fun c => D.str ⟨#[c]⟩) (cs.map fun c => V.str ⟨#[c]⟩)
  | [] => .nil
  | c :: cs => .cons rfl (reps_strs cs)
theorem vals_signs {x : Str} : ∀ (us : List Value) (cs : List Nat), us.length = cs.length → (∀ (j : Nat) (v : Value), us[j]? = some v → ∃ (c : Nat) (u : Tok), cs[j]? = some c ∧ v = Value.str ⟨#[c]⟩ u) → Vals (cs.map fun c => V.str ⟨#[c]⟩) us
  | [], [], _, _ => .nil
  | [], _ :: _, h, _ => by cases h
  | _ :: _, [], h, _ => by cases h
  | v :: us, c :: cs, h, hs => by
    obtain ⟨c', u, e, rfl⟩ := hs 0 v rfl
    cases e
    exact .cons ⟨u, rfl⟩ (vals_signs (x := x) us cs (by simpa using h) fun j v hv => hs (j + 1) v hv)
theorem cd_listT (hc : X.calm = true) : CallR X (.type "list") (rDL X.K listT) := fun pins s σ H xs us Q I rv hh => by
  obtain ⟨ds, M, F, Q0, r1, m, fr, ⟨x, rfl, hz, q⟩, g⟩ := hh
  obtain ⟨v, rfl, rr⟩ := r1.one
  cases rr
  obtain ⟨u, rfl, t, rfl⟩ := vals1 rv
  refine call_list_str (I.ok.hd hc) x t (hn := hz) fun h' tk acc' c' hk hS' hacc => ?_
  have hn : H s.heap.objs.size = none := I.hok.fresh (Nat.le_refl _)
  have hv : Vals (x.cps.toList.map fun c => V.str ⟨#[c]⟩) acc'.toList := by
    refine vals_signs (x := x) _ _ (by simp [hacc.1]) fun j v hv => ?_
    obtain ⟨c, u, hc, rfl⟩ := hacc.2 j v (by simpa using hv)
    exact ⟨c, u, by simpa using hc, rfl⟩
  refine ⟨.ref s.heap.objs.size, upd H s.heap.objs.size (.lst (x.cps.toList.map fun c => V.str ⟨#[c]⟩)), I.laid (t' := tk) hk (Nat.le_refl _) ?_, rfl, g _ _ _ _ (q _ (m.none hn)) (.new hn) (fr.new hn _) (m.new hn ⟨_, upd_same, reps_strs _⟩) rfl⟩
  exact ⟨by rw [List.length_map, Array.length_toList]; exact hz, acc'.toList, c', hv, by simpa using hS'⟩
def listS : Spec := fun ds M Q => listS0 ds M Q ∨ listT ds M Q
theorem cd_list (hc : X.calm = true) : CallR X (.type "list") (rDL X.K listS) := fun pins s σ H xs us Q I rv hh => by
  obtain ⟨ds, M, F, Q0, r1, m, fr, h, g⟩ := hh
  rcases h with h | h
  · exact cd_list0 pins s σ H xs us Q I rv ⟨ds, M, F, Q0, r1, m, fr, h, g⟩
  · exact cd_listT hc pins s σ H xs us Q I rv ⟨ds, M, F, Q0, r1, m, fr, h, g⟩
theorem Reps.bls {H : Hp} : ∀ {bs : List Bool} {vs : List V}, Reps K H (bs.map D.bl) vs → vs = bs.map V.bl
  | [], _, h => by unfold Reps at h; exact h
  | b :: bs, _, h => by
    unfold Reps at h
    obtain ⟨v, r, rfl, h1, h2⟩ := h
    cases h1
    rw [Reps.bls h2]
    rfl
theorem Reps.ints' {H : Hp} : ∀ {bs : List Int} {vs : List V}, Reps K H (bs.map D.int) vs → vs = bs.map V.int
  | [], _, h => by unfold Reps at h; exact h
  | b :: bs, _, h => by
    unfold Reps at h
    obtain ⟨v, r, rfl, h1, h2⟩ := h
    cases h1
    rw [Reps.ints' h2]
    rfl
def allS : Spec := fun ds M Q => ∃ (a : Addr) (bs : List Bool), ds = [.ref a] ∧ M a = some (.lst (bs.map D.bl)) ∧ Q (.bl (bs.all id)) M
def anyS : Spec := fun ds M Q => ∃ (a : Addr) (bs : List Bool), ds = [.ref a] ∧ M a = some (.lst (bs.map D.bl)) ∧ Q (.bl (bs.any id)) M
def sumS : Spec := fun ds M Q => ∃ (a : Addr) (ns : List Int), ds = [.ref a] ∧ M a = some (.lst (ns.map D.int)) ∧ Q (.int ns.sum) M
theorem cd_all (hc : X.calm = true) : CallR X (.builtin "all") (rDL X.K allS) := (cr_all hc).lift fun ds M F H Q0 Q vs r m fr h g => by
  obtain ⟨a, bs, rfl, e, q⟩ := h
  obtain ⟨v, rfl, rr⟩ := r.one
  cases rr
  obtain ⟨vs, q1, p1⟩ := m _ _ e
  rw [p1.bls] at q1
  exact ⟨a, bs, rfl, .of q1, g _ M _ H q (.refl _) fr.frm m rfl⟩
theorem cd_any (hc : X.calm = true) : CallR X (.builtin "any") (rDL X.K anyS) := (cr_any hc).lift fun ds M F H Q0 Q vs r m fr h g => by
  obtain ⟨a, bs, rfl, e, q⟩ := h
  obtain ⟨v, rfl, rr⟩ := r.one
  cases rr
  obtain ⟨vs, q1, p1⟩ := m _ _ e
  rw [p1.bls] at q1
  exact ⟨a, bs, rfl, .of q1, g _ M _ H q (.refl _) fr.frm m rfl⟩
theorem cd_sum (hc : X.calm = true) : CallR X (.builtin "sum") (rDL X.K sumS) := (cr_sum hc).lift fun ds M F H Q0 Q vs r m fr h g => by
  obtain ⟨a, bs, rfl, e, q⟩ := h
  obtain ⟨v, rfl, rr⟩ := r.one
  cases rr
  obtain ⟨vs, q1, p1⟩ := m _ _ e
  rw [p1.ints'] at q1
  exact ⟨a, bs, rfl, .of q1, g _ M _ H q (.refl _) fr.frm m rfl⟩
def maxS : Spec := fun ds M Q => ∃ i j, ds = [.int i, .int j] ∧ Q (.int (if j > i then j else i)) M
def minS : Spec := fun ds M Q => ∃ i j, ds = [.int i, .int j] ∧ Q (.int (if j < i then j else i)) M
theorem cd_max (hc : X.calm = true) : CallR X (.builtin "max") (rDL X.K maxS) := (call_max2 hc).lift fun ds M F H Q0 Q vs r m fr h g => by
  obtain ⟨i, j, rfl, q⟩ := h
  obtain ⟨v, u, rfl, rr, rr'⟩ := r.two
  cases rr; cases rr'
  exact ⟨i, j, rfl, g _ M _ H q (.refl _) fr.frm m rfl⟩
theorem cd_min (hc : X.calm = true) : CallR X (.builtin "min") (rDL X.K minS) := (call_min2 hc).lift fun ds M F H Q0 Q vs r m fr h g => by
  obtain ⟨i, j, rfl, q⟩ := h
  obtain ⟨v, u, rfl, rr, rr'⟩ := r.two
  cases rr; cases rr'
  exact ⟨i, j, rfl, g _ M _ H q (.refl _) fr.frm m rfl⟩
def absS : Spec := fun ds M Q => ∃ i, ds = [.int i] ∧ Q (.int (if i < 0 then -i else i)) M
theorem cd_abs : CallR X (.builtin "abs") (rDL X.K absS) := call_abs.lift fun ds M F H Q0 Q vs r m fr h g => by
  obtain ⟨i, rfl, q⟩ := h
  obtain ⟨v, rfl, rr⟩ := r.one
  obtain rfl : v = V.int i := rr
  exact ⟨i, rfl, g _ M _ H q (.refl _) fr.frm m rfl⟩
def intS : Spec := fun ds M Q => (∃ i, ds = [.int i] ∧ Q (.int i) M) ∨ ∃ k : Bool, ds = [.bl k] ∧ Q (.int (if k then 1 else 0)) M
theorem cd_int : CallR X (.type "int") (rDL X.K intS) := call_int1.lift fun ds M F H Q0 Q vs r m fr h g => by
  rcases h with ⟨i, rfl, q⟩ | ⟨i, rfl, q⟩
  · obtain ⟨v, rfl, rr⟩ := r.one
    obtain rfl : v = V.int i := rr
    exact .inl ⟨i, rfl, g _ M _ H q (.refl _) fr.frm m rfl⟩
  · obtain ⟨v, rfl, rr⟩ := r.one
    obtain rfl : v = V.bl i := rr
    exact .inr ⟨i, rfl, g _ M _ H q (.refl _) fr.frm m rfl⟩
def boolS : Spec := fun ds M Q => (∃ i : Int, ds = [.int i] ∧ Q (.bl (i != 0)) M) ∨ ∃ k : Bool, ds = [.bl k] ∧ Q (.bl k) M
theorem cd_bool : CallR X (.type "bool") (rDL X.K boolS) := call_bool1.lift fun ds M F H Q0 Q vs r m fr h g => by
  rcases h with ⟨i, rfl, q⟩ | ⟨i, rfl, q⟩
  · obtain ⟨v, rfl, rr⟩ := r.one
    obtain rfl : v = V.int i := rr
    exact .inl ⟨i, rfl, g _ M _ H q (.refl _) fr.frm m rfl⟩
  · obtain ⟨v, rfl, rr⟩ := r.one
    obtain rfl : v = V.bl i := rr
    exact .inr ⟨i, rfl, g _ M _ H q (.refl _) fr.frm m rfl⟩
def strS : Spec := fun ds M Q => (∃ i : Int, ds = [.int i] ∧ i.natAbs.log2 < 1920 ∧ Q (.str (toString i)) M) ∨ ∃ z : Str, ds = [.str z] ∧ Q (.str z) M
theorem cd_str : CallR X (.type "str") (rDL X.K strS) := fun pins s σ H xs us Q I rv hh => by
  obtain ⟨ds, M, F', Q0, r1, m, fr, h, g⟩ := hh
  rcases h with ⟨i, rfl, hz, q⟩ | ⟨z, rfl, q⟩
  · obtain ⟨v, rfl, rr⟩ := r1.one
    obtain rfl : v = V.int i := rr
    exact call_str_int pins s σ H _ us Q I rv ⟨i, rfl, hz, g _ M _ H q (.refl _) fr.frm m rfl⟩
  · obtain ⟨v, rfl, rr⟩ := r1.one
    obtain rfl : v = V.str z := rr
    exact SkE.call_str_str pins s σ H _ us Q I rv ⟨z, rfl, g _ M _ H q (.refl _) fr.frm m rfl⟩
def sortD (ds : List D) : List D := ds.mergeSort (PySem.W.dataLe false py)
def Sort0 (xs : List D) : Prop := PySem.W.Sortable (xs.map py) ∨ ((∃ rest, xs = .tup [] :: rest) ∧ ∀ x ∈ xs, ∃ ys, x = .tup ys)
def sortedS : Spec := fun ds M Q => ∃ (a : Addr) (xs : List D), ds = [.ref a] ∧ M a = some (.lst xs) ∧ plains xs = true ∧ PySem.W.AllAlike (xs.map py) ∧ Sort0 xs ∧ (∀ x ∈ xs, (py x).depth ≤ 60) ∧ ∀ p, M p = none → Q (.ref p) (up M p (.lst (sortD xs)))
theorem each_of {pins : List (Addr × Obj)} {σ : L2.St} {H : Hp} {s : Shared} (I : Inv X pins σ H s) : ∀ {xs : List D} {vs : List V} {us : List Value}, Reps X.K H xs vs → Vals vs us → plains xs = true →
    PySem.W.EachIs (fun (u : Value) (d : D) => ∃ v, RelV v u ∧ Rep X.K H d v) us xs ∧ PySem.W.EachIs (fun (u : Value) (d : D) => ∃ as, Reads s.heap u (py d) as) us xs
  | [], _, _, r, rv, _ => by
    unfold Reps at r; subst r
    cases rv
    exact ⟨.nil, .nil⟩
  | x :: xs, _, _, r, rv, hp => by
    unfold Reps at r
    obtain ⟨v, vs, rfl, r1, r2⟩ := r
    unfold plains at hp
    rw [Bool.and_eq_true] at hp
    cases rv with
    | cons q1 q2 =>
      obtain ⟨h1, h2⟩ := each_of I r2 q2 hp.2
      have m0 : RepM X.K H (fun _ => none) := fun a o e => by cases e
      exact ⟨.cons ⟨v, q1, r1⟩ h1, .cons (Dp.reads I _ v _ ((Dat.plain hp.1).dp m0 r1) q1) h2⟩
theorem of_each {H : Hp} : ∀ {us : List Value} {xs : List D}, PySem.W.EachIs (fun (u : Value) (d : D) => ∃ v, RelV v u ∧ Rep K H d v) us xs → ∃ vs, Vals vs us ∧ Reps K H xs vs
  | _, _, .nil => ⟨[], .nil, .nil⟩
  | _, _, .cons ⟨v, q, r⟩ e => by
    obtain ⟨vs, h1, h2⟩ := of_each e
    exact ⟨v :: vs, .cons q h1, .cons r h2⟩
theorem cd_sorted (hu : Ru X) : CallR X (.builtin "sorted") (rDL X.K sortedS) := fun pins s σ H xs us Q I rv hh => by
  obtain ⟨ds, M, F, Q0, r1, m, fr, ⟨a, xs, rfl, e, hp, al, so, dp, q⟩, g⟩ := hh
  obtain ⟨v, rfl, rr⟩ := r1.one
  cases rr
  obtain ⟨vs, q1, p1⟩ := m _ _ e
  obtain ⟨u, rfl, ru⟩ := vals1 rv
  obtain rfl : u = Value.ref a := ru
  obtain ⟨its, rl, hl, hz⟩ := I.list (SqL.of (K := X.K) q1)
  obtain ⟨h1, h2⟩ := each_of I p1 rl hp
  suffices fin : _ by
    rcases so with so | ⟨⟨rest, e0⟩, so⟩
    · exact PySem.W.sorted_data (R := fun (u : Value) (d : D) => ∃ v, RelV v u ∧ Rep X.K H d v) (enc := py) hl.isList h1 h2 al so (by rw [p1.length]; exact hz) (fun b hb => by have := hu; have := dp b hb; omega) fin
    · subst e0
      exact sorted_data0 (R := fun (u : Value) (d : D) => ∃ v, RelV v u ∧ Rep X.K H d v) (enc := py) hl.isList h1 h2 al (by simp [py, pys]) (fun b hb => by obtain ⟨ys, rfl⟩ := so b (List.mem_cons_of_mem _ hb); exact ⟨pys ys, by unfold py; rfl⟩) (by rw [p1.length]; exact hz) (fun b hb => by have := hu; have := dp b hb; omega) fin
  intro out hlen ho
  obtain ⟨vs', w1, w2⟩ := of_each ho
  have hn : H (s.heap.objs.size + 1) = none := I.hok.fresh (by omega)
  have ez : out.length ≤ sizeLine := by rw [hlen, p1.length]; exact hz
  refine ⟨.ref (s.heap.objs.size + 1), upd H (s.heap.objs.size + 1) (.lst vs'), ?_, rfl, g _ _ _ _ (q _ (m.none hn)) (.new hn) (fr.new hn _) (m.new hn ⟨vs', upd_same, w2.stay (.new hn)⟩) rfl⟩
  obtain ⟨c, hc⟩ := PyProof.Rows.sortedAll_at s.heap its out.toArray
  refine I.laid (t' := s.toks) (fun b o e => ?_) (by omega) ⟨by rw [w1.length]; exact ez, out, c, w1, hc⟩
  exact PyProof.Rows.sortedAll_old e
end
end DL
namespace DL
open PySem L2 RZ
variable {K : PySem.W.Frag}
mutual
inductive Tg where
  | name (i : Nat)
  | tup (ts : Tgs)
inductive Tgs where
  | nil
  | cons (t : Tg) (ts : Tgs)
end
mutual
def Tg.asn : Tg → D → Ro → Option Ro
  | .name i, d, ρ => some (ρ.set i (some d))
  | .tup ts, .tup ds, ρ => ts.asn ds ρ
  | _, _, _ => none
def Tgs.asn : Tgs → List D → Ro → Option Ro
  | .nil, [], ρ => some ρ
  | .cons t ts, d :: ds, ρ => match t.asn d ρ with
    | some ρ' => ts.asn ds ρ'
    | none => none
  | _, _, _ => none
end
mutual
def Tg.slots : Tg → List Nat
  | .name i => [i]
  | .tup ts => ts.slots
def Tgs.slots : Tgs → List Nat
  | .nil => []
  | .cons t ts => t.slots ++ ts.slots
end
def Off (vs : List Nat) (σ σ' : St) : Prop := σ'.length = σ.length ∧ ∀ j, j ∉ vs → σ'[j]? = σ[j]?
theorem Off.refl (vs : List Nat) (σ : St) : Off vs σ σ := ⟨rfl, fun _ _ => rfl⟩
theorem Off.trans {vs : List Nat} {σ σ1 σ2 : St} (a : Off vs σ σ1) (b : Off vs σ1 σ2) : Off vs σ σ2 := ⟨b.1.trans a.1, fun j h => (b.2 j h).trans (a.2 j h)⟩
theorem Off.mono {vs us : List Nat} {σ σ1 : St} (a : Off vs σ σ1) (h : ∀ j ∈ vs, j ∈ us) : Off us σ σ1 := ⟨a.1, fun j hj => a.2 j fun z => hj (h j z)⟩
theorem Off.set (σ : St) (i : Nat) (v : Option V) : Off [i] σ (σ.set i v) := ⟨List.length_set, fun j h => by rw [List.getElem?_set_ne]; intro e; exact h (by simp [e])⟩
def gD (K : PySem.W.Frag) (t : Tg) : TG := fun v σ H Q => ∃ d ρ ρ' M F, Rep K H d v ∧ Stt K H σ ρ M F ∧ t.asn d ρ = some ρ' ∧ ∀ σ', Off t.slots σ σ' → Stt K H σ' ρ' M F → Q σ' H
def gDs (K : PySem.W.Frag) (t : Tgs) : TGs := fun vs σ H Q => ∃ ds ρ ρ' M F, Reps K H ds vs ∧ Stt K H σ ρ M F ∧ t.asn ds ρ = some ρ' ∧ ∀ σ', Off t.slots σ σ' → Stt K H σ' ρ' M F → Q σ' H
theorem _root_.L2.PG.imp {X : Cx} {e : Expr} {t t' : TG} (h : PG X e t) (i : ∀ v σ H Q, t' v σ H Q → t v σ H Q) : PG X e t' := ⟨fun pins s σ H v u Q I r q => h.run pins s σ H v u Q I r (i v σ H Q q)⟩
theorem _root_.L2.PGs.imp {X : Cx} {e : List Expr} {t t' : TGs} (h : PGs X e t) (i : ∀ v σ H Q, t' v σ H Q → t v σ H Q) : PGs X e t' := ⟨fun pins s σ H v u Q I r q => h.run pins s σ H v u Q I r (i v σ H Q q)⟩
section
variable {X : Cx} {a b c : Expr} {wa wb wc : WE} {pos : Pos}
theorem pgd_name {i : Nat} {e : Expr} (h : PG X e (gName i)) : PG X e (gD X.K (.name i)) := h.imp fun v σ H Q => by
  rintro ⟨d, ρ, ρ', M, F, r, s, e, q⟩
  unfold Tg.asn at e
  cases e
  exact q _ (by unfold Tg.slots; exact Off.set σ i _) (s.set r i)
theorem pgds_nil : PGs X [] (gDs X.K .nil) := pgs_nil.imp fun v σ H Q => by
  rintro ⟨ds, ρ, ρ', M, F, r, s, e, q⟩
  cases ds with
  | nil =>
    unfold Reps at r
    unfold Tgs.asn at e
    cases e
    exact ⟨r, q σ (.refl _ _) s⟩
  | cons d ds => unfold Tgs.asn at e; cases e
theorem pgds_cons {e : Expr} {es : List Expr} {t : Tg} {ts : Tgs} (h1 : PG X e (gD X.K t)) (h2 : PGs X es (gDs X.K ts)) (hs : (assignEach (e :: es) X.env).map (·.2) = assign e X.env :: (assignEach es X.env).map (·.2)) :
    PGs X (e :: es) (gDs X.K (.cons t ts)) := (pgs_cons h1 h2 hs).imp fun v σ H Q => by
  rintro ⟨ds, ρ, ρ', M, F, r, s, e, q⟩
  cases ds with
  | nil => unfold Tgs.asn at e; cases e
  | cons d ds =>
    unfold Reps at r
    obtain ⟨v, vs, rfl, r1, r2⟩ := r
    unfold Tgs.asn at e
    cases e1 : t.asn d ρ with
    | none => rw [e1] at e; cases e
    | some ρ1 =>
      rw [e1] at e
      refine ⟨v, vs, rfl, d, ρ, ρ1, M, F, r1, s, e1, fun σ1 o1 s1 => ⟨ds, ρ1, ρ', M, F, r2, s1, e, fun σ2 o2 s2 => q σ2 ?_ s2⟩⟩
      unfold Tgs.slots
      exact (o1.mono fun j h => List.mem_append_left _ h).trans (o2.mono fun j h => List.mem_append_right _ h)
def Tgs.len : Tgs → Nat
  | .nil => 0
  | .cons _ ts => ts.len + 1
theorem Tgs.asn_len : ∀ {ts : Tgs} {ds : List D} {ρ ρ' : Ro}, ts.asn ds ρ = some ρ' → ds.length = ts.len
  | .nil, [], _, _, _ => rfl
  | .nil, _ :: _, _, _, e => by unfold Tgs.asn at e; cases e
  | .cons t ts, [], _, _, e => by unfold Tgs.asn at e; cases e
  | .cons t ts, d :: ds, ρ, _, e => by
    unfold Tgs.asn at e
    cases e1 : t.asn d ρ with
    | none => rw [e1] at e; cases e
    | some ρ1 =>
      rw [e1] at e
      show ds.length + 1 = ts.len + 1
      rw [Tgs.asn_len e]
theorem pgd_tup {es : List Expr} {k : Nat} {ts : Tgs} (hc : X.calm = true) (h : PGs X es (gDs X.K ts)) (hn : (assignEach es X.env).length = ts.len) (hst : (assignEach es X.env).findIdx? (·.1) = none) : PG X (.Tuple es k pos) (gD X.K (.tup ts)) :=
  (pg_tup hc h hn hst).imp fun v σ H Q => by
    rintro ⟨d, ρ, ρ', M, F, r, s, e, q⟩
    cases d <;> (try (unfold Tg.asn at e; cases e; done))
    unfold Tg.asn at e
    unfold Rep at r
    obtain ⟨p, vs, rfl, s1, r1⟩ := r
    exact ⟨p, vs, rfl, s1, by rw [← r1.length]; exact Tgs.asn_len e, _, ρ, ρ', M, F, r1, s, e, fun σ' o' s' => q σ' (by unfold Tg.slots; exact o') s'⟩
structure DIt where
  items : List D
  keep : Mp → Prop
def ItOk (K : PySem.W.Frag) (J : It) (T : DIt) (H0 : Hp) : Prop := ∀ (H : Hp) (M : Mp), TupS K H0 H → RepM K H M → T.keep M → ∀ i : Nat,
  (i < T.items.length → J.go i H ∧ ∀ x H', J.yld i H x H' → ∃ d, T.items[i]? = some d ∧ TupS K H H' ∧ (∀ a o, H a = some o → H' a = some o) ∧ RepM K H' M ∧ Rep K H' d x) ∧ (T.items.length = i → J.stop i H)
abbrev WI := Ro → Mp → (DIt → Mp → Prop) → Prop
def iD (K : PySem.W.Frag) (w : WI) : TI := fun σ H R => ∃ ρ M F Q0, Stt K H σ ρ M F ∧ w ρ M Q0 ∧ ∀ T M' J H', Q0 T M' → TupS K H H' → Frm F H H' M' → RepM K H' M' → ItOk K J T H' → R J H'
theorem _root_.L2.PI.imp {X : Cx} {tg e : Expr} {t t' : TI} (h : PI X tg e t) (i : ∀ σ H Q, t' σ H Q → t σ H Q) : PI X tg e t' := ⟨fun pins s σ H Q I q => h.run pins s σ H Q I (i σ H Q q)⟩
theorem Frm.of_same {F : Addr → Prop} {H H' : Hp} {M : Mp} (f : FrOk F H M) (k : ∀ a o, H a = some o → H' a = some o) : Frm F H H' M := fun a h => by
  obtain ⟨⟨o, e, _⟩, n⟩ := f a h
  exact ⟨by rw [e, k a o e], n⟩
def iSeq (K : PySem.W.Frag) (tl : TE) : TI := fun σ H R => tl σ H fun x H1 => ∃ a, x = .ref a ∧ (((∃ xs, SqL K H1 a xs) ∧ R (Itl K a) H1) ∨ ((∃ xs, SqT K H1 a xs) ∧ R (Itt K a) H1))
theorem pi_seq {tg l : Expr} {tl : TE} (hl : PE X l tl) : PI X tg l (iSeq X.K tl) := by
  refine ⟨fun pins s σ H R I h => ?_⟩
  refine thn (hl.run pins s σ H _ I h) fun v s1 ⟨x, H1, I1, r1, q1⟩ => ?_
  obtain ⟨a, e, q1⟩ := q1
  subst e
  cases r1
  rcases q1 with ⟨⟨xs, hq⟩, q⟩ | ⟨⟨xs, hq⟩, q⟩
  · obtain ⟨its, rv, p, hz⟩ := I1.list hq
    refine wpAny_pyIter_list p.isList ?_
    refine ⟨s1.heap.objs.size, [s1.heap.objs.size], _, _, H1, rfl, I1.kept (t' := s1.toks) fun b o e => Heap.get?_push_of_some _ e, turn_list a _, ⟨_, Heap.get?_push_size _ rfl, rfl, rfl⟩, fun b hb => ?_, q⟩
    have e : b = s1.heap.objs.size := by simpa using hb
    subst e
    exact I1.fpOk (Nat.le_refl _) (I1.hok.fresh (Nat.le_refl _))
  · obtain ⟨its, rv, p, hz⟩ := I1.tuple hq
    refine wpAny_pyIter_tuple (show s1.heap.IsTuple a its.toArray from p) ?_
    refine ⟨s1.heap.objs.size, [s1.heap.objs.size], _, _, H1, rfl, I1.kept (t' := s1.toks) fun b o e => Heap.get?_push_of_some _ e, turn_tuple a _, ⟨_, Heap.get?_push_size _ rfl, rfl, rfl⟩, fun b hb => ?_, q⟩
    have e : b = s1.heap.objs.size := by simpa using hb
    subst e
    exact I1.fpOk (Nat.le_refl _) (I1.hok.fresh (Nat.le_refl _))
def seqT (M : Mp) (d : D) (T : DIt) : Prop := (∃ ds, d = .tup ds ∧ T = ⟨ds, fun _ => True⟩) ∨ (∃ p ds, d = .ref p ∧ M p = some (.lst ds) ∧ T = ⟨ds, fun M => M p = some (.lst ds)⟩)
def wISeq (w : WE) : WI := fun ρ M Q => w ρ M fun d M1 => ∃ T, seqT M1 d T ∧ Q T M1
theorem itok_l {p : Addr} {ds : List D} {H0 : Hp} : ItOk K (Itl K p) ⟨ds, fun M => M p = some (.lst ds)⟩ H0 := fun H M t m k i => by
  obtain ⟨vs, e, r⟩ := m _ _ k
  have el := r.length
  refine ⟨fun hi => ⟨⟨vs, vs[i]'(by rw [← el]; exact hi), .of e, List.getElem?_eq_getElem _⟩, fun x H' hy => ?_⟩, fun hi => ⟨vs, .of e, by rw [← el]; exact Nat.le_of_eq hi⟩⟩
  obtain ⟨rfl, hy⟩ := hy
  obtain ⟨d, e1, e2⟩ := r.get' (hy vs (.of e))
  exact ⟨d, e1, .refl _, fun _ _ h => h, m, e2⟩
theorem itok_t {p : Addr} {ds : List D} {vs : List V} {H0 : Hp} (h0 : SqT K H0 p vs) (r0 : Reps K H0 ds vs) : ItOk K (Itt K p) ⟨ds, fun _ => True⟩ H0 := fun H M t m k i => by
  have e := t.1 _ _ h0
  have r := r0.stay t
  have el := r.length
  refine ⟨fun hi => ⟨⟨vs, vs[i]'(by rw [← el]; exact hi), e, List.getElem?_eq_getElem _⟩, fun x H' hy => ?_⟩, fun hi => ⟨vs, e, by rw [← el]; exact Nat.le_of_eq hi⟩⟩
  obtain ⟨rfl, hy⟩ := hy
  obtain ⟨d, e1, e2⟩ := r.get' (hy vs e)
  exact ⟨d, e1, .refl _, fun _ _ h => h, m, e2⟩
theorem pid_seq {tg : Expr} (h : PE X a (tD X.K wa)) : PI X tg a (iD X.K (wISeq wa)) := (pi_seq h).imp fun σ H R => by
  rintro ⟨ρ, M, F, Q0, s, q, g⟩
  refine ⟨ρ, M, F, _, s, q, fun x M1 v H1 q1 t1 f1 r1 p1 => ?_⟩
  obtain ⟨T, hT, q1⟩ := q1
  rcases hT with ⟨ds, rfl, rfl⟩ | ⟨p, ds, rfl, e, rfl⟩
  · unfold Rep at p1
    obtain ⟨p, vs, rfl, s1, p2⟩ := p1
    exact ⟨p, rfl, .inr ⟨⟨vs, s1⟩, g _ M1 _ H1 q1 t1 f1 r1 (itok_t s1 p2)⟩⟩
  · cases p1
    obtain ⟨vs, e1, p2⟩ := r1 _ _ e
    exact ⟨p, rfl, .inl ⟨⟨vs, .of e1⟩, g _ M1 _ H1 q1 t1 f1 r1 itok_l⟩⟩
def rngI (lo hi : Int) : List D := (List.range (hi - lo).toNat).map fun i => .int (lo + (i : Nat))
theorem itok_r {lo hi : Int} {H0 : Hp} : ItOk K (Itr lo (hi - lo).toNat) ⟨rngI lo hi, fun _ => True⟩ H0 := fun H M t m k i => by
  have el : (rngI lo hi).length = (hi - lo).toNat := by unfold rngI; rw [List.length_map, List.length_range]
  refine ⟨fun hi' => ⟨by rw [show DIt.items _ = rngI lo hi from rfl, el] at hi'; exact hi', fun x H' hy => ?_⟩, fun hi' => by rw [show DIt.items _ = rngI lo hi from rfl, el] at hi'; exact Nat.le_of_eq hi'⟩
  obtain ⟨rfl, rfl⟩ := hy
  rw [show DIt.items _ = rngI lo hi from rfl, el] at hi'
  refine ⟨.int (lo + (i : Nat)), ?_, .refl _, fun _ _ h => h, m, rfl⟩
  show (rngI lo hi)[i]? = _
  unfold rngI
  rw [List.getElem?_map, List.getElem?_range hi']
  rfl
def small62 (i : Int) : Prop := -(2 ^ 62) ≤ i ∧ i < 2 ^ 62
def wIR1 (w : WE) : WI := fun ρ M Q => w ρ M fun d M1 => ∃ i, d = .int i ∧ small62 i ∧ Q ⟨rngI 0 i, fun _ => True⟩ M1
def wIR2 (wa wb : WE) : WI := fun ρ M Q => wa ρ M fun d M1 => wb ρ M1 fun e M2 => ∃ i j, d = .int i ∧ e = .int j ∧ small62 i ∧ small62 j ∧ Q ⟨rngI i j, fun _ => True⟩ M2
theorem arg1 {w : WE} {ρ : Ro} {M : Mp} {P : D → Mp → Prop} (h : w ρ M P) : wCons w wNil ρ M (fun ds M1 => ∃ d, ds = [d] ∧ P d M1) := by
  show w ρ M (fun d M1 => ∃ d', [d] = [d'] ∧ P d' M1)
  have e : (fun d M1 => ∃ d', [d] = [d'] ∧ P d' M1) = P := by
    funext d M1
    apply propext
    constructor
    · rintro ⟨d', e, h⟩
      cases e
      exact h
    · exact fun h => ⟨d, rfl, h⟩
  rw [e]
  exact h
theorem arg2 {w u : WE} {ρ : Ro} {M : Mp} {P : D → D → Mp → Prop} (h : w ρ M fun d M1 => u ρ M1 fun e M2 => P d e M2) : wCons w (wCons u wNil) ρ M (fun ds M1 => ∃ d e, ds = [d, e] ∧ P d e M1) := by
  show w ρ M (fun d M1 => u ρ M1 fun e M2 => ∃ d' e', [d, e] = [d', e'] ∧ P d' e' M2)
  have q : (fun d M1 => u ρ M1 fun e M2 => ∃ d' e', [d, e] = [d', e'] ∧ P d' e' M2) = fun d M1 => u ρ M1 fun e M2 => P d e M2 := by
    funext d M1
    congr 1
    funext e M2
    apply propext
    constructor
    · rintro ⟨d', e', z, h⟩
      cases z
      exact h
    · exact fun h => ⟨d, e, rfl, h⟩
  rw [q]
  exact h
theorem pid_r1 {tg : Expr} {p : Pos} (h : PE X a (tD X.K wa)) (hg : Gl X "range") (hm : X.mg "range" = none) (hs : starEach [a] X.env = [(false, eval a X.env)]) : PI X tg (.Call (.Name "range" p) [a] [] pos) (iD X.K (wIR1 wa)) :=
  (pi_range1 hg hm (pda_cons h pda_nil hs) hs).imp fun σ H R => by
    rintro ⟨ρ, M, F, Q0, s, q, g⟩
    refine ⟨ρ, M, F, _, s, arg1 q, fun ds M1 vs H1 q1 t1 f1 r1 p1 => ?_⟩
    obtain ⟨d, rfl, i, rfl, s1, q1⟩ := q1
    obtain ⟨v, rfl, p1'⟩ := p1.one
    cases p1'
    have e : (i - 0).toNat = i.toNat := by rw [Int.sub_zero]
    refine ⟨i, rfl, s1.1, s1.2, g _ M1 _ H1 q1 t1 f1 r1 ?_⟩
    rw [← e]
    exact itok_r
def zipI (xs ys : List D) : List D := List.zipWith (fun x y => .tup [x, y]) xs ys
def zipT (M : Mp) (d e : D) (T : DIt) : Prop := (∃ xs ys, d = .tup xs ∧ e = .tup ys ∧ T = ⟨zipI xs ys, fun _ => True⟩) ∨
  (∃ p q xs ys, d = .ref p ∧ e = .ref q ∧ M p = some (.lst xs) ∧ M q = some (.lst ys) ∧ T = ⟨zipI xs ys, fun M => M p = some (.lst xs) ∧ M q = some (.lst ys)⟩)
def wIZip (wa wb : WE) : WI := fun ρ M Q => wa ρ M fun d M1 => wb ρ M1 fun e M2 => ∃ T, zipT M2 d e T ∧ Q T M2
theorem zipI_len (xs ys : List D) : (zipI xs ys).length = min xs.length ys.length := by unfold zipI; rw [List.length_zipWith]
theorem zipI_get {xs ys : List D} {i : Nat} {x y : D} (h1 : xs[i]? = some x) (h2 : ys[i]? = some y) : (zipI xs ys)[i]? = some (.tup [x, y]) := by
  unfold zipI
  rw [List.getElem?_zipWith, h1, h2]
theorem yields {H H' : Hp} {M : Mp} {T : Addr} {v1 v2 : V} {d1 d2 : D} (m : RepM K H M) (hT : H T = none) (e : H' = upd H T (.tup [v1, v2])) (r1 : Rep K H d1 v1) (r2 : Rep K H d2 v2) :
    TupS K H H' ∧ (∀ a o, H a = some o → H' a = some o) ∧ RepM K H' M ∧ Rep K H' (.tup [d1, d2]) (.ref T) := by
  subst e
  refine ⟨.new hT, fun a o h => by rw [upd_ne (ne_of_none h hT)]; exact h, m.more hT, ?_⟩
  unfold Rep
  exact ⟨T, _, rfl, .of upd_same, .cons (r1.stay (.new hT)) (.cons (r2.stay (.new hT)) .nil)⟩
theorem itok_zl {p q : Addr} {xs ys : List D} {H0 : Hp} : ItOk K (Itz K p q) ⟨zipI xs ys, fun M => M p = some (.lst xs) ∧ M q = some (.lst ys)⟩ H0 := fun H M t m k i => by
  obtain ⟨vs, e, r⟩ := m _ _ k.1
  obtain ⟨us, e', r'⟩ := m _ _ k.2
  have el := r.length
  have el' := r'.length
  have ez : (zipI xs ys).length = min vs.length us.length := by rw [zipI_len, el, el']
  refine ⟨fun hi => ?_, fun hi => ⟨vs, us, .of e, .of e', ?_⟩⟩
  · have hi : i < min vs.length us.length := by rw [← ez]; exact hi
    have h1 : vs[i]? = some (vs[i]'(by omega)) := List.getElem?_eq_getElem _
    have h2 : us[i]? = some (us[i]'(by omega)) := List.getElem?_eq_getElem _
    refine ⟨⟨vs, us, _, _, .of e, .of e', h1, h2⟩, fun x H' hy => ?_⟩
    obtain ⟨T, v1, v2, rfl, hT, eH, g1, g2⟩ := hy
    obtain ⟨d1, a1, b1⟩ := r.get' (g1 vs (.of e))
    obtain ⟨d2, a2, b2⟩ := r'.get' (g2 us (.of e'))
    exact ⟨_, zipI_get a1 a2, yields m hT eH b1 b2⟩
  · have hi : min vs.length us.length ≤ i := by rw [← ez]; exact Nat.le_of_eq hi
    omega
theorem itok_zt {p q : Addr} {xs ys : List D} {vs us : List V} {H0 : Hp} (h0 : SqT K H0 p vs) (r0 : Reps K H0 xs vs) (h0' : SqT K H0 q us) (r0' : Reps K H0 ys us) : ItOk K (ItzT K p q) ⟨zipI xs ys, fun _ => True⟩ H0 := fun H M t m k i => by
  have e := t.1 _ _ h0
  have r := r0.stay t
  have e' := t.1 _ _ h0'
  have r' := r0'.stay t
  have el := r.length
  have el' := r'.length
  have ez : (zipI xs ys).length = min vs.length us.length := by rw [zipI_len, el, el']
  refine ⟨fun hi => ?_, fun hi => ⟨vs, us, e, e', ?_⟩⟩
  · have hi : i < min vs.length us.length := by rw [← ez]; exact hi
    have h1 : vs[i]? = some (vs[i]'(by omega)) := List.getElem?_eq_getElem _
    have h2 : us[i]? = some (us[i]'(by omega)) := List.getElem?_eq_getElem _
    refine ⟨⟨vs, us, _, _, e, e', h1, h2⟩, fun x H' hy => ?_⟩
    obtain ⟨T, v1, v2, rfl, hT, eH, g1, g2⟩ := hy
    obtain ⟨d1, a1, b1⟩ := r.get' (g1 vs e)
    obtain ⟨d2, a2, b2⟩ := r'.get' (g2 us e')
    exact ⟨_, zipI_get a1 a2, yields m hT eH b1 b2⟩
  · have hi : min vs.length us.length ≤ i := by rw [← ez]; exact Nat.le_of_eq hi
    omega
theorem pid_zip {elts : List Expr} {kk : Nat} {tpos p : Pos} (h : PE X a (tD X.K wa)) (h' : PE X b (tD X.K wb)) (hg : Gl X "zip") (hm : X.mg "zip" = none) (hs : starEach [a, b] X.env = (false, eval a X.env) :: starEach [b] X.env) (hs2 : starEach [b] X.env = [(false, eval b X.env)]) :
    PI X (.Tuple elts kk tpos) (.Call (.Name "zip" p) [a, b] [] pos) (iD X.K (wIZip wa wb)) :=
  (pi_zipA hg hm (pda_cons h (pda_cons h' pda_nil hs2) hs) hs (by rw [hs2]; rfl)).imp fun σ H R => by
    rintro ⟨ρ, M, F, Q0, s, q, g⟩
    refine ⟨ρ, M, F, _, s, arg2 q, fun ds M1 vs H1 q1 t1 f1 r1 p1 => ?_⟩
    obtain ⟨d, e, rfl, T, hT, q1⟩ := q1
    obtain ⟨v, u, rfl, p1', p2'⟩ := p1.two
    rcases hT with ⟨xs, ys, rfl, rfl, rfl⟩ | ⟨p, q, xs, ys, rfl, rfl, e1, e2, rfl⟩
    · unfold Rep at p1' p2'
      obtain ⟨p, vs, rfl, s1, p3⟩ := p1'
      obtain ⟨q, us, rfl, s2, p4⟩ := p2'
      exact ⟨p, q, vs, us, rfl, .inr ⟨s1, s2, g _ M1 _ H1 q1 t1 f1 r1 (itok_zt s1 p3 s2 p4)⟩⟩
    · cases p1'; cases p2'
      obtain ⟨vs, w1, _⟩ := r1 _ _ e1
      obtain ⟨us, w2, _⟩ := r1 _ _ e2
      exact ⟨p, q, vs, us, rfl, .inl ⟨.of w1, .of w2, g _ M1 _ H1 q1 t1 f1 r1 itok_zl⟩⟩
def strI (x : Str) : List D := x.cps.toList.map fun c => .str ⟨#[c]⟩
def wIStr (w : WE) : WI := fun ρ M Q => w ρ M fun d M1 => ∃ x, d = .str x ∧ Q ⟨strI x, fun _ => True⟩ M1
theorem itok_s {x : Str} {H0 : Hp} : ItOk K (Its x) ⟨strI x, fun _ => True⟩ H0 := fun H M t m k i => by
  have el : (strI x).length = x.cps.size := by unfold strI; rw [List.length_map, Array.length_toList]
  refine ⟨fun hi => ⟨by rw [show DIt.items _ = strI x from rfl, el] at hi; exact hi, fun v H' hy => ?_⟩, fun hi => by rw [show DIt.items _ = strI x from rfl, el] at hi; exact Nat.le_of_eq hi⟩
  obtain ⟨rfl, c, hc, rfl⟩ := hy
  refine ⟨.str ⟨#[c]⟩, ?_, .refl _, fun _ _ h => h, m, rfl⟩
  show (strI x)[i]? = _
  unfold strI
  rw [List.getElem?_map, Array.getElem?_toList, hc]
  rfl
theorem pid_str {tg : Expr} (h : PE X a (tD X.K wa)) : PI X tg a (iD X.K (wIStr wa)) := (pi_str h).imp fun σ H R => by
  rintro ⟨ρ, M, F, Q0, s, q, g⟩
  refine ⟨ρ, M, F, _, s, q, fun x M1 v H1 q1 t1 f1 r1 p1 => ?_⟩
  obtain ⟨x, rfl, q1⟩ := q1
  cases p1
  exact ⟨x, rfl, g _ M1 _ H1 q1 t1 f1 r1 itok_s⟩
end
end DL
namespace DL
open PySem L2 RZ
open PyProof.Rows (Call_)
open AutoSeq1 (wpAny_loadPart')
theorem meets_enumT (l : Addr) (items : Array Value) (n : Nat) (dct : Option Addr) (sl : Array (Option Value)) :
    Meets (Builtin.«enumerate.__new__» ⟨[.type "enumerate", .ref l], []⟩) (fun _ R s => s.heap.get? l = some { cls := .type "tuple", dict := dct, data := .seq items n, slots := sl } ∧
      R (.ok (.ret (.ref (s.heap.push { cls := .type "tuple_iterator", data := .fields #[.ref l, .int 0 0] }).objs.size)))
        { s with heap := (s.heap.push { cls := .type "tuple_iterator", data := .fields #[.ref l, .int 0 0] }).push { cls := .type "enumerate", data := .fields #[.none, .bool false, .ref s.heap.objs.size, rawInt 0, .none, .none] } }) :=
  .of_wp fun prog w A R s h => by
    obtain ⟨hp, g, d, tk, os⟩ := s; obtain ⟨hl, h⟩ := h
    have hsub := sub_enumerate
    have hL : Heap.IsTuple (Shared.heap ⟨hp, g, d, tk, os⟩) l items := ⟨_, hl, rfl, n, rfl⟩
    wp_walk using wpAny_loadPart' hl
    refine wpAny_stack_any fun st => wpAny_pure ?_
    split
    · rename_i c _ _ _ _ _
      cases (c == Value.type "enumerate")
      · wp_walk using wpAny_loadPart' hl, wpAny_pyIter_tuple hL
        exact ⟨_, rfl, h⟩
      · wp_walk using wpAny_loadPart' hl, wpAny_pyIter_tuple hL
        exact ⟨_, rfl, h⟩
    · wp_walk using wpAny_loadPart' hl, wpAny_pyIter_tuple hL
      exact ⟨_, rfl, h⟩
section
variable {prog : Program} {w : World} {A : Around} {E : Value → Shared → Prop} {s : Shared}
theorem call_enumT {l : Addr} {items : Array Value} {Q : Value → Shared → Prop} (hL : s.heap.IsTuple l items)
    (h : ∀ h', IsEnum h' (s.heap.objs.size + 1) s.heap.objs.size 0 .none → h'.IsTupleIter s.heap.objs.size l 0 → h'.objs.size = s.heap.objs.size + 2 →
      (∀ b o, s.heap.get? b = some o → h'.get? b = some o) → Q (.ref (s.heap.objs.size + 1)) { s with heap := h' }) :
    wpAny (model prog w) A (call (.type "enumerate") [.ref l]) Q E s := by
  obtain ⟨⟨c, dct, dt, sl⟩, hl, hc, n, hd⟩ := hL
  replace hc : c = .type "tuple" := hc
  replace hd : dt = .seq items n := hd
  subst hc hd
  refine callType_new F.called_enumerate (by decide) (F.typeCall_enumerate_1 _) (F.newCall_enumerate_1 _) (fun obj => F.args_object_init_2 obj _) F.entry_enumerate_new
    (meets_enumT l items n dct sl) ⟨hl, ?_⟩
  have hz : (s.heap.push { cls := .type "tuple_iterator", data := .fields #[.ref l, .int 0 0] }).objs.size = s.heap.objs.size + 1 := Heap.size_push ..
  show _ ∧ _
  rw [hz]
  have he : IsEnum ((s.heap.push { cls := .type "tuple_iterator", data := .fields #[.ref l, .int 0 0] }).push
      { cls := .type "enumerate", data := .fields #[.none, .bool false, .ref s.heap.objs.size, rawInt 0, .none, .none] }) (s.heap.objs.size + 1) s.heap.objs.size 0 .none := by
    have := Heap.get?_push_size (s.heap.push { cls := .type "tuple_iterator", data := .fields #[.ref l, .int 0 0] })
      (o := { cls := .type "enumerate", data := .fields #[.none, .bool false, .ref s.heap.objs.size, rawInt 0, .none, .none] }) rfl
    rw [hz] at this; exact this
  refine ⟨⟨_, he, rfl⟩, h _ he ⟨_, Heap.get?_push_of_some _ (Heap.get?_push_size _ rfl), rfl, rfl⟩ (by rw [Heap.size_push, hz]) fun b o x => Heap.get?_push_of_some _ (Heap.get?_push_of_some _ x)⟩
end
theorem drawsT {prog : Program} {w : World} {A : Around} (hh : A.handled = none) (it l : Addr) (hne : l ≠ it) (items : Array Value) :
    Draws prog w A it [it, l] items.size (fun i v => items[i]? = some v) (fun i h => h.IsTupleIter it l i ∧ h.IsTuple l items) where
  live := fun _ _ st => let ⟨o, ho, _⟩ := st.1; ⟨o, ho⟩
  frame := fun _ _ _ st hk => ⟨let ⟨o, ho, r⟩ := st.1; ⟨o, hk it (by simp) o ho, r⟩, let ⟨o, ho, r⟩ := st.2; ⟨o, hk l (by simp) o ho, r⟩⟩
  item := fun i s Q E hi st hQ => by
    refine nextOf_tuple_item st.1 st.2 (x := items[i]) (by simp [hi]) fun h' hit' hs' => ?_
    exact hQ _ h' s.toks (by simp [hi]) ⟨hit', st.2.extBut hs'.extBut hne⟩ hs'
  done := fun s Q E st hE => nextOf_tuple_end hh st.1 st.2 (by simp) hE
def IteT (K : PySem.W.Frag) (a : Addr) : It :=
  ⟨fun i H => ∃ (xs : List V) (x : V), SqT K H a xs ∧ xs[i]? = some x, fun i H v H' => ∃ T x, v = .ref T ∧ H T = none ∧ H' = upd H T (.tup [.int (i : Nat), x]) ∧ ∀ xs, SqT K H a xs → xs[i]? = some x, fun i H => ∃ xs : List V, SqT K H a xs ∧ xs.length = i⟩
theorem turn_enumT {P : Program} {w : World} {K : PySem.W.Frag} {elts : List Expr} {kk : Nat} {tpos : Pos} (a e it : Addr) :
    Turn P w K (.Tuple elts kk tpos) (IteT K a) [e, it] e (fun i h => (∃ old, IsEnum h e it ((i : Nat) : Int) old) ∧ h.IsTupleIter it a i ∧ e ≠ it ∧ a ≠ it ∧ a ≠ e) where
  mem := by simp
  obj := fun i h st b hb => by
    obtain ⟨⟨old, he⟩, ⟨o, ho, hc, hd⟩, _⟩ := st
    have e' : b = e ∨ b = it := by simpa using hb
    rcases e' with z | z
    · rw [z]; exact ⟨_, he, fun v q => nomatch q⟩
    · rw [z]; exact ⟨o, ho, fun v q => by rw [hd] at q; cases q⟩
  keep := fun i h h' st k => let ⟨⟨old, he⟩, ⟨o, ho, r⟩, hne⟩ := st; ⟨⟨old, k e (by simp) _ he⟩, ⟨o, k it (by simp) o ho, r⟩, hne⟩
  item := by
    intro X hP hw hK hc i pins s σ H E I hf st hg
    subst hP hw hK
    obtain ⟨⟨old, he⟩, hit, hne, hai, hae⟩ := st
    obtain ⟨xs, x, hq, hx⟩ := hg
    obtain ⟨its, rv, p, hz⟩ := I.tuple hq
    obtain ⟨u, hu, ru⟩ := rv.get hx
    have hel : e < s.heap.objs.size := Heap.lt_size he
    have hil : it < s.heap.objs.size := by obtain ⟨_, q, _⟩ := hit; exact Heap.lt_size q
    have hlt : i < its.toArray.size := by
      obtain ⟨h1, _⟩ := List.getElem?_eq_some_iff.mp hu
      simpa using h1
    refine wpAny_pyNext_enum_itemD (drawsT (prog := X.prog) (w := X.w) (A := X.A.in1) (I.ok.hd hc) it a hai its.toArray) he ⟨hit, p⟩ hlt hne (by simp [hne, Ne.symm hae]) fun y h' tk hy ho hit' hT hsz hk => ?_
    obtain rfl : y = u := by
      have e1 : its.toArray[i]? = some u := by simpa using hu
      rw [hy] at e1
      exact Option.some.inj e1
    refine ⟨_, rfl, wpAny_letOwnedTupleGo_enum (s := { s with heap := h', toks := tk + 1 }) ho fun h'' he' sb => ?_⟩
    have hT2 : h''.get? s.heap.objs.size = some { cls := .type "tuple", data := .seq #[.int i tk, y] } := (sb.2 _ (Nat.ne_of_gt hel)).trans hT
    have new : ObjOk X.prog X.w (upd H s.heap.objs.size (.tup [.int (i : Nat), x])) h'' s.heap.objs.size (.tup [.int (i : Nat), x]) :=
      ⟨by show 2 ≤ sizeLine; decide, [.int i tk, y], .cons ⟨_, rfl⟩ (.cons ru .nil), ⟨_, hT2, rfl, _, rfl⟩⟩
    have I1 : Inv X pins σ (upd H s.heap.objs.size (.tup [.int (i : Nat), x])) { s with heap := h'', toks := tk + 1 } :=
      I.turnedNew (ch := [e, it]) (fun b ob hb q => (sb.2 b (fun z => hb (by simp [z]))).trans (hk b ob (fun z => hb (by simp [z])) (fun z => hb (by simp [z])) q)) hf (Nat.le_refl _) new
    refine ⟨.ref s.heap.objs.size, _, I1, rfl, ⟨_, x, rfl, I.hok.fresh (Nat.le_refl _), rfl, fun ys hy => by rw [I.tuple_inj hy hq]; exact hx⟩, ⟨⟨y, ?_⟩, ?_, hne, hai, hae⟩, fun b hb => ?_⟩
    · have e1 : ((i + 1 : Nat) : Int) = (i : Int) + 1 := by omega
      rw [e1]; exact he'
    · obtain ⟨o, ho2, r⟩ := hit'.1
      exact ⟨o, (sb.2 it (Ne.symm hne)).trans ho2, r⟩
    · have hb' : b < s.heap.objs.size := by
        have e' : b = e ∨ b = it := by simpa using hb
        rcases e' with z | z
        · rw [z]; exact hel
        · rw [z]; exact hil
      rw [upd_ne (Nat.ne_of_lt hb')]
      exact (hf b hb).1
  done := by
    intro X hP hw hK hc i pins s σ H E I hf st hg
    subst hP hw hK
    obtain ⟨⟨old, he⟩, hit, hne, hai, hae⟩ := st
    obtain ⟨xs, hq, hx⟩ := hg
    obtain ⟨its, rv, p, hz⟩ := I.tuple hq
    obtain ⟨f0, f1, f2, f3, f4, f5⟩ := hf it (by simp)
    have hl := rv.length
    have hi : i = its.toArray.size := by simp; omega
    refine wpAny_pyNext_enum_endD (drawsT (prog := X.prog) (w := X.w) (A := X.A.in1) (I.ok.hd hc) it a hai its.toArray) he (by rw [← hi]; exact ⟨hit, p⟩) fun h' eb => ⟨rfl, I.turned (t' := s.toks) (fun b o hb q => eb b o hb q) f0 f1 f3 f4 f5⟩
  self := fun A i s Q E st h => let ⟨⟨_, he⟩, _⟩ := st; wpAny_pyIter_enum he h
section
variable {K : PySem.W.Frag} {X : Cx} {a : Expr} {wa : WE} {pos : Pos}
def iEnumA (K : PySem.W.Frag) (ta : TA) : TI := fun σ H R => ta σ H fun vs H1 => ∃ a xs, vs = [.ref a] ∧ ((SqL K H1 a xs ∧ R (Ite K a) H1) ∨ (SqT K H1 a xs ∧ R (IteT K a) H1))
theorem pi_enumA {e : Expr} {ta : TA} {p tpos : Pos} {elts : List Expr} {kk : Nat} (hg : Gl X "enumerate") (hm : X.mg "enumerate" = none) (ha : PA X [e] ta) (hs : starEach [e] X.env = [(false, eval e X.env)]) :
    PI X (.Tuple elts kk tpos) (.Call (.Name "enumerate" p) [e] [] pos) (iEnumA X.K ta) := by
  refine ⟨fun pins s σ H R I h => ?_⟩
  refine Call_ (ld_blt I hg hm (show bootBuiltins "enumerate" = some (.type "enumerate") by decide +kernel) (PyProof.Rows.callWith_type1 (thn (ha.run pos pins s σ H _ I h) fun us s1 ⟨vs, H1, I1, r1, q1⟩ => ?_) hs rfl))
  obtain ⟨a, xs, ex, q1⟩ := q1
  subst ex
  cases r1 with
  | cons r rr =>
    cases rr
    cases r
    have hle : ∀ b, b = s1.heap.objs.size + 1 ∨ b = s1.heap.objs.size → s1.heap.objs.size ≤ b := fun b e' => by
      rcases e' with z | z
      · rw [z]; exact Nat.le_add_right _ _
      · rw [z]; exact Nat.le_refl _
    rcases q1 with ⟨hq, q⟩ | ⟨hq, q⟩
    · obtain ⟨its, rv, p', hz⟩ := I1.list hq
      refine call_enumerate_list p'.isList fun h' he hit hsz hk => wpAny_pyIter_enum he ?_
      have I2 : Inv X pins σ H1 { s1 with heap := h' } := I1.kept (t' := s1.toks) hk
      refine ⟨s1.heap.objs.size + 1, [s1.heap.objs.size + 1, s1.heap.objs.size], _, _, H1, rfl, I2, turn_enum a (s1.heap.objs.size + 1) s1.heap.objs.size, ⟨⟨.none, he⟩, hit, Nat.succ_ne_self _⟩, fun b hb => ?_, q⟩
      exact I1.fpOk (hle b (by simpa using hb)) (I1.hok.fresh (hle b (by simpa using hb)))
    · obtain ⟨its, rv, p', hz⟩ := I1.tuple hq
      have hal : a < s1.heap.objs.size := by obtain ⟨o, ho, _⟩ := p'; exact Heap.lt_size ho
      refine call_enumT (show s1.heap.IsTuple a its.toArray from p') fun h' he hit hsz hk => wpAny_pyIter_enum he ?_
      have I2 : Inv X pins σ H1 { s1 with heap := h' } := I1.kept (t' := s1.toks) hk
      refine ⟨s1.heap.objs.size + 1, [s1.heap.objs.size + 1, s1.heap.objs.size], _, _, H1, rfl, I2, turn_enumT a (s1.heap.objs.size + 1) s1.heap.objs.size, ⟨⟨.none, he⟩, hit, Nat.succ_ne_self _, Nat.ne_of_lt hal, Nat.ne_of_lt (Nat.lt_succ_of_lt hal)⟩, fun b hb => ?_, q⟩
      exact I1.fpOk (hle b (by simpa using hb)) (I1.hok.fresh (hle b (by simpa using hb)))
def enI : Nat → List D → List D
  | _, [] => []
  | n, d :: ds => .tup [.int (n : Nat), d] :: enI (n + 1) ds
theorem enI_len : ∀ (n : Nat) (ds : List D), (enI n ds).length = ds.length
  | _, [] => rfl
  | n, d :: ds => by unfold enI; rw [List.length_cons, List.length_cons, enI_len]
theorem enI_get : ∀ (n : Nat) (ds : List D) (i : Nat) (d : D), ds[i]? = some d → (enI n ds)[i]? = some (.tup [.int ((n + i : Nat) : Int), d])
  | _, [], _, _, h => by simp at h
  | n, e :: ds, 0, d, h => by
    simp at h; subst h
    unfold enI
    simp
  | n, e :: ds, i + 1, d, h => by
    unfold enI
    rw [List.getElem?_cons_succ, enI_get (n + 1) ds i d (by simpa using h)]
    congr 4
    omega
def enT (M : Mp) (d : D) (T : DIt) : Prop := (∃ ds, d = .tup ds ∧ T = ⟨enI 0 ds, fun _ => True⟩) ∨ (∃ p ds, d = .ref p ∧ M p = some (.lst ds) ∧ T = ⟨enI 0 ds, fun M => M p = some (.lst ds)⟩)
def wIEn (w : WE) : WI := fun ρ M Q => w ρ M fun d M1 => ∃ T, enT M1 d T ∧ Q T M1
theorem itok_el {p : Addr} {ds : List D} {H0 : Hp} : ItOk K (Ite K p) ⟨enI 0 ds, fun M => M p = some (.lst ds)⟩ H0 := fun H M t m k i => by
  obtain ⟨vs, e, r⟩ := m _ _ k
  have el := r.length
  have ez : (enI 0 ds).length = vs.length := by rw [enI_len, el]
  refine ⟨fun hi => ?_, fun hi => ⟨vs, .of e, by rw [← ez]; exact Nat.le_of_eq hi⟩⟩
  have hi : i < vs.length := by rw [← ez]; exact hi
  refine ⟨⟨vs, vs[i], .of e, List.getElem?_eq_getElem _⟩, fun x H' hy => ?_⟩
  obtain ⟨T, v, rfl, hT, eH, g1⟩ := hy
  obtain ⟨d, a1, b1⟩ := r.get' (g1 vs (.of e))
  exact ⟨_, enI_get 0 ds i d a1, yields m hT eH (by unfold Rep; simp) b1⟩
theorem itok_et {p : Addr} {ds : List D} {vs : List V} {H0 : Hp} (h0 : SqT K H0 p vs) (r0 : Reps K H0 ds vs) : ItOk K (IteT K p) ⟨enI 0 ds, fun _ => True⟩ H0 := fun H M t m k i => by
  have e := t.1 _ _ h0
  have r := r0.stay t
  have el := r.length
  have ez : (enI 0 ds).length = vs.length := by rw [enI_len, el]
  refine ⟨fun hi => ?_, fun hi => ?_⟩
  · have hi : i < vs.length := by rw [← ez]; exact hi
    refine ⟨⟨vs, vs[i], e, List.getElem?_eq_getElem _⟩, fun x H' hy => ?_⟩
    obtain ⟨T, v, rfl, hT, eH, g1⟩ := hy
    obtain ⟨d, a1, b1⟩ := r.get' (g1 vs e)
    exact ⟨_, enI_get 0 ds i d a1, yields m hT eH (by unfold Rep; simp) b1⟩
  · exact ⟨vs, e, by rw [← ez]; exact hi⟩
theorem pid_en {elts : List Expr} {kk : Nat} {tpos p : Pos} (h : PE X a (tD X.K wa)) (hg : Gl X "enumerate") (hm : X.mg "enumerate" = none) (hs : starEach [a] X.env = [(false, eval a X.env)]) :
    PI X (.Tuple elts kk tpos) (.Call (.Name "enumerate" p) [a] [] pos) (iD X.K (wIEn wa)) := (pi_enumA hg hm (pda_cons h pda_nil hs) hs).imp fun σ H R => by
  rintro ⟨ρ, M, F, Q0, s, q, g⟩
  refine ⟨ρ, M, F, _, s, arg1 q, fun ds M1 vs H1 q1 t1 f1 r1 p1 => ?_⟩
  obtain ⟨d, rfl, T, hT, q1⟩ := q1
  obtain ⟨v, rfl, p1'⟩ := p1.one
  rcases hT with ⟨ds, rfl, rfl⟩ | ⟨p, ds, rfl, e, rfl⟩
  · unfold Rep at p1'
    obtain ⟨p, vs, rfl, s1, p2⟩ := p1'
    exact ⟨p, vs, rfl, .inr ⟨s1, g _ M1 _ H1 q1 t1 f1 r1 (itok_et s1 p2)⟩⟩
  · cases p1'
    obtain ⟨vs, e1, p2⟩ := r1 _ _ e
    exact ⟨p, vs, rfl, .inl ⟨.of e1, g _ M1 _ H1 q1 t1 f1 r1 itok_el⟩⟩
end
end DL
namespace DL
open PySem L2
variable {K : PySem.W.Frag}
def wipeD (ρ : Ro) : List Nat → Ro
  | [] => ρ
  | v :: vs => (wipeD ρ vs).set v none
theorem set_none {K : PySem.W.Frag} {H : Hp} {σ : St} {ρ : Ro} (h : RepS K H σ ρ) (v : Nat) : RepS K H (σ.set v none) (ρ.set v none) := by
  refine ⟨by rw [List.length_set, List.length_set]; exact h.1, fun i d e => ?_⟩
  by_cases hi : v = i
  · subst hi
    by_cases hl : v < ρ.length
    · rw [List.getElem?_set_self hl] at e; cases e
    · rw [List.getElem?_eq_none (by rw [List.length_set]; omega)] at e; cases e
  · rw [List.getElem?_set_ne hi] at e ⊢
    exact h.2 i d e
theorem RepS.wipe {H : Hp} {σ : St} {ρ : Ro} (h : RepS K H σ ρ) : ∀ vs : List Nat, RepS K H (L2.wipe σ vs) (wipeD ρ vs)
  | [] => h
  | v :: vs => by unfold L2.wipe wipeD; exact set_none (h.wipe vs) v
theorem wipe_get {σ : St} {vs : List Nat} {j : Nat} : (L2.wipe σ vs)[j]? = if j ∈ vs then (if j < σ.length then some none else none) else σ[j]? := by
  induction vs with
  | nil => unfold L2.wipe; simp
  | cons v vs ih =>
    unfold L2.wipe
    by_cases hv : v = j
    · subst hv
      by_cases hl : v < σ.length
      · rw [List.getElem?_set_self (by rw [wipe_length]; exact hl)]; simp [hl]
      · rw [List.getElem?_eq_none (by rw [List.length_set, wipe_length]; omega)]; simp [hl]
    · rw [List.getElem?_set_ne hv, ih]
      by_cases hm : j ∈ vs
      · simp [hm]
      · have h2 : j ∉ v :: vs := fun h => (List.mem_cons.mp h).elim (fun e => hv e.symm) hm
        rw [if_neg hm, if_neg h2]
theorem wipe_off {σ σ2 : St} {vs : List Nat} (h : Off vs (L2.wipe σ vs) σ2) : L2.wipe σ2 vs = L2.wipe σ vs := by
  apply List.ext_getElem?
  intro j
  have hl : σ2.length = σ.length := by rw [h.1, wipe_length]
  rw [wipe_get, wipe_get, hl]
  by_cases hm : j ∈ vs
  · rw [if_pos hm, if_pos hm]
  · rw [if_neg hm, if_neg hm, h.2 j hm, wipe_get, if_neg hm]
def lcGo (T : DIt) (g : Tg) (wt : WT) (we : WE) (ρ : Ro) (fin : List D → Mp → Prop) : List D → List D → Mp → Prop
  | [], acc, M => T.keep M ∧ fin acc M
  | x :: xs, acc, M => T.keep M ∧ ∃ ρ1, g.asn x ρ = some ρ1 ∧ wt ρ1 M fun b M1 => if b = true then we ρ1 M1 fun d M2 => lcGo T g wt we ρ fin xs (acc ++ [d]) M2 else lcGo T g wt we ρ fin xs acc M1
def wYes : WT := fun _ M Q => Q true M
def wLc (wi : WI) (g : Tg) (wt : WT) (we : WE) (vs : List Nat) : WE := fun ρ M Q => wi ρ M fun T M1 => T.items.length ≤ sizeLine ∧ lcGo T g wt we (wipeD ρ vs) (fun acc M2 => ∀ p, M2 p = none → Q (.ref p) (up M2 p (.lst acc))) T.items [] M1
theorem RepM.off {H : Hp} {M : Mp} (r : RepM K H M) {p : Addr} {u : HO} {ys : List V} (h : M p = Option.none) (hp : H p = Option.some (.lst ys)) : RepM K (upd H p u) M := fun a q e => by
  have ha : a ≠ p := fun z => by subst z; rw [h] at e; cases e
  exact (r a q e).stay (.lst hp) (upd_ne ha)
theorem lc_of {wi : WI} {g : Tg} {wt : WT} {we : WE} {vs : List Nat} (hg : ∀ j ∈ g.slots, j ∈ vs) {σ : St} {H : Hp} {Q : VK} (h : tD K (wLc wi g wt we vs) σ H Q) : tLc (iD K wi) (gD K g) (tDT K wt) (tD K we) vs σ H Q := by
  obtain ⟨ρ, M, F, Q0, s, q, gg⟩ := h
  refine ⟨ρ, M, F, _, s, q, fun T M1 J H1 q1 t1 f1 r1 it => ?_⟩
  obtain ⟨hlen, q1⟩ := q1
  intro D hD
  have fr1 := s.fr.next f1
  have nF : ∀ a, F a → a ≠ D := fun a ha z => by obtain ⟨⟨o, e, _⟩, _⟩ := fr1 a ha; rw [z, hD] at e; cases e
  generalize hfin : (fun acc M2 => ∀ p, M2 p = none → Q0 (.ref p) (up M2 p (.lst acc))) = fin at q1
  refine ⟨fun i m H' => m = T.items.length - i ∧ i ≤ T.items.length ∧ ∃ acc vacc M', H' D = some (.lst vacc) ∧ Reps K H' acc vacc ∧ acc.length ≤ i ∧ RepM K H' M' ∧ FrOk (fun a => F a ∨ a = D) H' M' ∧ TupS K H H' ∧ Frm F H H' M' ∧ TupS K H1 H' ∧ lcGo T g wt we (wipeD ρ vs) fin (T.items.drop i) acc M', ⟨T.items.length, rfl, Nat.zero_le _, [], [], M1, upd_same, .nil, Nat.zero_le _, r1.more hD, fun a ha => ?_, t1.trans (.new hD), f1.trans (fr1.more hD), .new hD, q1⟩, ?_⟩
  · rcases ha with ha | rfl
    · exact ⟨by rw [upd_ne (nF a ha)]; exact (fr1 a ha).1, (fr1 a ha).2⟩
    · exact ⟨⟨_, upd_same, lst_no⟩, r1.none hD⟩
  · rintro i m H2 ⟨rfl, hi, acc, vacc, M2, eD, ra, la, r2, fr2, t2, f2, tt2, q2⟩
    by_cases hlt : i < T.items.length
    · rw [List.drop_eq_getElem_cons hlt] at q2
      unfold lcGo at q2
      obtain ⟨hk, ρ1, ea, q2⟩ := q2
      obtain ⟨go, yl⟩ := (it H2 M2 tt2 r2 hk i).1 hlt
      refine .inr ⟨go, fun H' => ∃ acc vacc M', H' D = some (.lst vacc) ∧ Reps K H' acc vacc ∧ acc.length ≤ i + 1 ∧ RepM K H' M' ∧ FrOk (fun a => F a ∨ a = D) H' M' ∧ TupS K H H' ∧ Frm F H H' M' ∧ TupS K H1 H' ∧ lcGo T g wt we (wipeD ρ vs) fin (T.items.drop (i + 1)) acc M', fun H' ⟨acc, vacc, M', h1, h2, h3, h4, h5, h6, h7, h8, h9⟩ => ⟨T.items.length - (i + 1), by omega, rfl, hlt, acc, vacc, M', h1, h2, h3, h4, h5, h6, h7, h8, h9⟩, fun x H3 hy => ?_⟩
      obtain ⟨d, ed, t3, k3, r3, p3⟩ := yl x H3 hy
      rw [List.getElem?_eq_getElem hlt] at ed
      cases ed
      have f3 : Frm (fun a => F a ∨ a = D) H2 H3 M2 := .of_same fr2 k3
      have fr3 := fr2.next f3
      have s3 : Stt K H3 (L2.wipe σ vs) (wipeD ρ vs) M2 (fun a => F a ∨ a = D) := by
        refine ⟨?_, r3, fr3⟩
        have e := s.rs.wipe vs
        exact ⟨e.1, fun i d h => let ⟨v, e1, e2⟩ := e.2 i d h; ⟨v, e1, e2.stay (t2.trans t3)⟩⟩
      refine ⟨_, wipeD ρ vs, ρ1, M2, _, p3, s3, ea, fun σ2 o2 s2 => ⟨wipe_off (o2.mono hg), ρ1, M2, _, _, s2, q2, fun b M4 H4 q4 t4 f4 r4 => ?_⟩⟩
      have e4 : H4 D = some (.lst vacc) := by rw [(f4 D (.inr rfl)).1, k3 D _ eD]
      have n4 : M4 D = none := (f4 D (.inr rfl)).2
      have F4 : Frm F H H4 M4 := f2.trans (Frm.trans (M1 := M2) (fun a ha => f3 a (.inl ha)) fun a ha => f4 a (.inl ha))
      cases b with
      | false =>
        rw [if_neg Bool.false_ne_true] at q4
        show if false = true then _ else _
        rw [if_neg Bool.false_ne_true]
        exact ⟨acc, vacc, M4, e4, ra.stay (t3.trans t4), by omega, r4, fr3.next f4, (t2.trans t3).trans t4, F4, (tt2.trans t3).trans t4, q4⟩
      | true =>
        rw [if_pos rfl] at q4
        show if true = true then _ else _
        rw [if_pos rfl]
        refine ⟨ρ1, M4, _, _, s2.next t4 f4 r4, q4, fun d M5 y H5 q5 t5 f5 r5 p5 => ?_⟩
        have e5 : H5 D = some (.lst vacc) := by rw [(f5 D (.inr rfl)).1, e4]
        have n5 : M5 D = none := (f5 D (.inr rfl)).2
        have tl : TupS K H5 (upd H5 D (.lst (vacc ++ [y]))) := .lst e5
        refine ⟨vacc, e5, by rw [← ra.length]; omega, acc ++ [d], vacc ++ [y], M5, upd_same, ((ra.stay (t3.trans (t4.trans t5))).snoc p5).stay tl, by simp; omega, r5.off n5 e5, fun a ha => ?_, ((t2.trans t3).trans (t4.trans t5)).trans tl, fun a ha => ?_, ((tt2.trans t3).trans (t4.trans t5)).trans tl, q5⟩
        · rcases ha with ha | rfl
          · have := ((fr3.next f4).next f5) a (.inl ha)
            exact ⟨by rw [upd_ne (nF a ha)]; exact this.1, this.2⟩
          · exact ⟨⟨_, upd_same, lst_no⟩, n5⟩
        · have e := (F4.trans fun a ha => f5 a (.inl ha)) a ha
          exact ⟨by rw [upd_ne (nF a ha)]; exact e.1, e.2⟩
    · have e : i = T.items.length := by omega
      subst e
      rw [List.drop_length] at q2
      unfold lcGo at q2
      obtain ⟨hk, q2⟩ := q2
      refine .inl ⟨(it H2 M2 tt2 r2 hk _).2 rfl, ?_⟩
      subst hfin
      have n2 : M2 D = none := (fr2 D (.inr rfl)).2
      refine gg _ _ _ H2 (q2 D n2) t2 (fun a ha => ⟨(f2 a ha).1, by rw [up_ne (nF a ha)]; exact (f2 a ha).2⟩) (fun a o ea => ?_) rfl
      by_cases ha : a = D
      · subst ha; rw [up_same] at ea; cases ea; exact ⟨vacc, eD, ra⟩
      · rw [up_ne ha] at ea; exact r2 a o ea
section
variable {X : Cx} {a b c : Expr} {wa wb wc : WE} {pos : Pos}
theorem pd_lc {elt tg iter : Expr} {ifs : List Expr} {scope : Scope} {own : List (Str × Nat)} {wi : WI} {g : Tg} {wt : WT} {we : WE} (hc : X.calm = true) (hN : X.N.Nodup) (hi : PI X tg iter (iD X.K wi)) (ok : BlkOk X.N X.env.scope scope own)
    (hg : ∀ (s : Shared) (H : Hp) (C : Addr) (cl : List (Str × Addr)) (fp : List Addr), PG (X.blk s H scope (compEnvC scope cl C X.env) fp) tg (gD X.K g)) (ht : ∀ (s : Shared) (H : Hp) (C : Addr) (cl : List (Str × Addr)) (fp : List Addr), PTs (X.blk s H scope (compEnvC scope cl C X.env) fp) ifs (tDT X.K wt))
    (he : ∀ (s : Shared) (H : Hp) (C : Addr) (cl : List (Str × Addr)) (fp : List Addr), PE (X.blk s H scope (compEnvC scope cl C X.env) fp) elt (tD X.K we)) (hs : ∀ x, foldedSetIterable iter X.env x = pure x) (hgs : ∀ j ∈ g.slots, j ∈ own.map (·.2)) :
    PE X (.ListComp elt [⟨tg, iter, ifs, 0⟩] scope pos) (tD X.K (wLc wi g wt we (own.map (·.2)))) := (pe_lc hc hN hi ok hg ht he hs).imp fun _ _ _ h => lc_of hgs h
end
structure DEnds where
  nx : Ro → Mp → Prop
  rt : D → Mp → Prop
  bk : Ro → Mp → Prop
  ct : Ro → Mp → Prop
abbrev WS := DEnds → Ro → Mp → Prop
structure GoS (K : PySem.W.Frag) (F : Addr → Prop) (H : Hp) (D0 : DEnds) (D : Ends) : Prop where
  nx : ∀ ρ' M' σ' H', D0.nx ρ' M' → TupS K H H' → Frm F H H' M' → Stt K H' σ' ρ' M' F → D.nx σ' H'
  rt : ∀ d M' v H', D0.rt d M' → TupS K H H' → Frm F H H' M' → RepM K H' M' → Rep K H' d v → D.rt v H'
  bk : ∀ ρ' M' σ' H', D0.bk ρ' M' → TupS K H H' → Frm F H H' M' → Stt K H' σ' ρ' M' F → D.bk σ' H'
  ct : ∀ ρ' M' σ' H', D0.ct ρ' M' → TupS K H H' → Frm F H H' M' → Stt K H' σ' ρ' M' F → D.ct σ' H'
theorem GoS.from {F : Addr → Prop} {H H1 : Hp} {M1 : Mp} {D0 : DEnds} {D : Ends} (g : GoS K F H D0 D) (t : TupS K H H1) (f : Frm F H H1 M1) : GoS K F H1 D0 D :=
  ⟨fun ρ' M' σ' H' q t' f' s => g.nx ρ' M' σ' H' q (t.trans t') (f.trans f') s, fun d M' v H' q t' f' r p => g.rt d M' v H' q (t.trans t') (f.trans f') r p,
   fun ρ' M' σ' H' q t' f' s => g.bk ρ' M' σ' H' q (t.trans t') (f.trans f') s, fun ρ' M' σ' H' q t' f' s => g.ct ρ' M' σ' H' q (t.trans t') (f.trans f') s⟩
def tDS (K : PySem.W.Frag) (w : WS) : TS := fun D σ H => ∃ ρ M F D0, Stt K H σ ρ M F ∧ w D0 ρ M ∧ GoS K F H D0 D
def wNext : WS := fun D0 ρ M => D0.nx ρ M
def wSeq (w u : WS) : WS := fun D0 ρ M => w { D0 with nx := fun ρ' M' => u D0 ρ' M' } ρ M
section
variable {X : Cx} {a b c : Expr} {wa wb wc : WE} {pos : Pos} {st : Stmt} {rest sts sts' : List Stmt} {w u : WS}
theorem psd_nil : PSs X [] (tDS X.K wNext) := pss_nil.imp fun D σ H => by
  rintro ⟨ρ, M, F, D0, s, q, g⟩
  exact g.nx ρ M σ H q (.refl _) s.fr.frm s
theorem psd_cons (h1 : PS X st (tDS X.K w)) (h2 : PSs X rest (tDS X.K u)) : PSs X (st :: rest) (tDS X.K (wSeq w u)) := (pss_cons h1 h2).imp fun D σ H => by
  rintro ⟨ρ, M, F, D0, s, q, g⟩
  exact ⟨ρ, M, F, _, s, q, ⟨fun ρ' M' σ' H' q' t' f' s' => ⟨ρ', M', F, D0, s', q', g.from t' f'⟩, g.rt, g.bk, g.ct⟩⟩
def wNever : WS := fun _ _ _ => False
theorem psd_never : PS X st (tDS X.K wNever) := ps_never.imp fun D σ H => by
  rintro ⟨ρ, M, F, D0, s, q, g⟩
  exact q
theorem psd_pass : PS X (.Pass pos) (tDS X.K wNext) := ps_pass.imp fun D σ H => by
  rintro ⟨ρ, M, F, D0, s, q, g⟩
  exact g.nx ρ M σ H q (.refl _) s.fr.frm s
def wDrop (we : WE) : WS := fun D0 ρ M => we ρ M fun _ M1 => D0.nx ρ M1
theorem psd_expr (he : PE X a (tD X.K wa)) (hs : swapsWith a none pos.line X.env = pure false) : PS X (.Expr a pos) (tDS X.K (wDrop wa)) := (ps_expr he hs).imp fun D σ H => by
  rintro ⟨ρ, M, F, D0, s, q, g⟩
  exact ⟨ρ, M, F, _, s, q, fun d M1 v H1 q1 t1 f1 r1 p1 => g.nx ρ M1 σ H1 q1 t1 f1 (s.next t1 f1 r1)⟩
def wRet (we : WE) : WS := fun D0 ρ M => we ρ M D0.rt
theorem psd_ret (he : PE X a (tD X.K wa)) : PS X (.Return (some a) pos) (tDS X.K (wRet wa)) := (ps_ret he).imp fun D σ H => by
  rintro ⟨ρ, M, F, D0, s, q, g⟩
  exact ⟨ρ, M, F, _, s, q, fun d M1 v H1 q1 t1 f1 r1 p1 => g.rt d M1 v H1 q1 t1 f1 r1 p1⟩
def wRetN : WS := fun D0 _ M => D0.rt .non M
def wIfS (t : WT) (w u : WS) : WS := fun D0 ρ M => t ρ M fun b M1 => if b = true then w D0 ρ M1 else u D0 ρ M1
theorem psd_if {wt : WT} (hc : PT X c (tDT X.K wt)) (ha : PSs X sts (tDS X.K w)) (hb : PSs X sts' (tDS X.K u)) : PS X (.If c sts sts' pos) (tDS X.K (wIfS wt w u)) := (ps_if hc ha hb).imp fun D σ H => by
  rintro ⟨ρ, M, F, D0, s, q, g⟩
  refine ⟨ρ, M, F, _, s, q, fun b M1 H1 q1 t1 f1 r1 => ?_⟩
  cases b with
  | true => rw [if_pos rfl] at q1 ⊢; exact ⟨ρ, M1, F, D0, s.next t1 f1 r1, q1, g.from t1 f1⟩
  | false => rw [if_neg Bool.false_ne_true] at q1 ⊢; exact ⟨ρ, M1, F, D0, s.next t1 f1 r1, q1, g.from t1 f1⟩
def wAsg (we : WE) (g : Tg) : WS := fun D0 ρ M => we ρ M fun d M1 => ∃ ρ', g.asn d ρ = some ρ' ∧ D0.nx ρ' M1
theorem asg_of {gt : Tg} {D : Ends} {σ : St} {H : Hp} (h : tDS K (wAsg wa gt) D σ H) : tAsg (tD K wa) (gD K gt) D σ H := by
  obtain ⟨ρ, M, F, D0, s, q, g⟩ := h
  refine ⟨ρ, M, F, _, s, q, fun d M1 v H1 q1 t1 f1 r1 p1 => ?_⟩
  obtain ⟨ρ', e, q1⟩ := q1
  exact ⟨d, ρ, ρ', M1, F, p1, s.next t1 f1 r1, e, fun σ' _ s' => g.nx ρ' M1 σ' H1 q1 t1 f1 s'⟩
theorem psd_asg {tg : Expr} {gt : Tg} (he : PE X a (tD X.K wa)) (hg : PG X tg (gD X.K gt)) (hs : swapsWithSole [tg] a pos.line X.env = pure false) (hw : swappedStores [tg] a X.env = pure none) (h1 : (assignEach [tg] X.env).map (·.2) = [assign tg X.env]) :
    PS X (.Assign [tg] a pos) (tDS X.K (wAsg wa gt)) := (ps_asg he hg hs hw h1).imp fun _ _ _ h => asg_of h
theorem psd_setLc {i : Nat} {y : Str} {py spos : Pos} {elt tg iter : Expr} {ifs : List Expr} {scope : Scope} {own : List (Str × Nat)} {wi : WI} {g : Tg} {wt : WT} {we : WE} (hc : X.calm = true) (hN : X.N.Nodup) (hy : X.N[i]? = some y) (hyl : X.env.scope.names.lookup y = some .local)
    (hsw : swapsWith (.ListComp elt [⟨tg, iter, ifs, 0⟩] scope pos) (some (.Name y py)) spos.line X.env = pure true) (hi : PI X tg iter (iD X.K wi)) (ok : BlkOk X.N X.env.scope scope own)
    (hg : ∀ (s : Shared) (H : Hp) (C : Addr) (cl : List (Str × Addr)) (fp : List Addr), PG (X.blk s H scope (compEnvC scope cl C X.env) fp) tg (gD X.K g)) (ht : ∀ (s : Shared) (H : Hp) (C : Addr) (cl : List (Str × Addr)) (fp : List Addr), PTs (X.blk s H scope (compEnvC scope cl C X.env) fp) ifs (tDT X.K wt))
    (he : ∀ (s : Shared) (H : Hp) (C : Addr) (cl : List (Str × Addr)) (fp : List Addr), PE (X.blk s H scope (compEnvC scope cl C X.env) fp) elt (tD X.K we)) (hs : ∀ x, foldedSetIterable iter X.env x = pure x) (hgs : ∀ j ∈ g.slots, j ∈ own.map (·.2)) :
    PS X (.Assign [.Name y py] (.ListComp elt [⟨tg, iter, ifs, 0⟩] scope pos) spos) (tDS X.K (wAsg (wLc wi g wt we (own.map (·.2))) (.name i))) :=
  (ps_setLc hc hN hy hyl hsw hi ok hg ht he hs).imp fun D σ H => by
    rintro ⟨ρ, M, F, D0, s, q, gg⟩
    refine lc_of hgs ⟨ρ, M, F, _, s, q, fun d M1 v H1 q1 t1 f1 r1 p1 => ?_⟩
    obtain ⟨ρ', e, q1⟩ := q1
    unfold Tg.asn at e
    cases e
    exact gg.nx _ M1 _ H1 q1 t1 f1 ((s.next t1 f1 r1).set p1 i)
def forGo (T : DIt) (g : Tg) (wb : WS) (D0 : DEnds) : List D → Ro → Mp → Prop
  | [], ρ, M => T.keep M ∧ D0.nx ρ M
  | x :: xs, ρ, M => T.keep M ∧ ∃ ρ1, g.asn x ρ = some ρ1 ∧ wb { D0 with nx := forGo T g wb D0 xs, ct := forGo T g wb D0 xs, bk := D0.nx } ρ1 M
def wFor (wi : WI) (g : Tg) (wb : WS) : WS := fun D0 ρ M => wi ρ M fun T M1 => forGo T g wb D0 T.items ρ M1
theorem psd_for {tg iter : Expr} {wi : WI} {g : Tg} {w : WS} (hp : PassesOwn (model X.prog X.w) X.A X.env X.xe) (hc : X.calm = true) (hi : PI X tg iter (iD X.K wi)) (hg : PG X tg (gD X.K g)) (hb : PSs X sts (tDS X.K w)) (hs : ∀ x, foldedSetIterable iter X.env x = pure x) :
    PS X (.For tg iter sts [] pos) (tDS X.K (wFor wi g w)) := (ps_for hp hc hi hg hb hs).imp fun D σ H => by
  rintro ⟨ρ, M, F, D0, s, q, gg⟩
  refine ⟨ρ, M, F, _, s, q, fun T M1 J H1 q1 t1 f1 r1 it => ?_⟩
  refine ⟨fun i m σ' H' => m = T.items.length - i ∧ i ≤ T.items.length ∧ ∃ ρ' M', Stt X.K H' σ' ρ' M' F ∧ TupS X.K H H' ∧ Frm F H H' M' ∧ TupS X.K H1 H' ∧ forGo T g w D0 (T.items.drop i) ρ' M', ⟨T.items.length, rfl, Nat.zero_le _, ρ, M1, s.next t1 f1 r1, t1, f1, .refl _, q1⟩, ?_⟩
  rintro i m σ2 H2 ⟨rfl, hi, ρ2, M2, s2, t2, f2, tt2, q2⟩
  by_cases hlt : i < T.items.length
  · rw [List.drop_eq_getElem_cons hlt] at q2
    unfold forGo at q2
    obtain ⟨hk, ρ3, ea, q2⟩ := q2
    obtain ⟨go, yl⟩ := (it H2 M2 tt2 s2.rm hk i).1 hlt
    refine .inr ⟨go, fun σ' H' => ∃ ρ' M', Stt X.K H' σ' ρ' M' F ∧ TupS X.K H H' ∧ Frm F H H' M' ∧ TupS X.K H1 H' ∧ forGo T g w D0 (T.items.drop (i + 1)) ρ' M', fun σ' H' h => ⟨T.items.length - (i + 1), by omega, rfl, hlt, h⟩, fun x H3 hy => ?_⟩
    obtain ⟨d, ed, t3, k3, r3, p3⟩ := yl x H3 hy
    rw [List.getElem?_eq_getElem hlt] at ed
    cases ed
    have f3 : Frm F H2 H3 M2 := .of_same s2.fr k3
    refine ⟨_, ρ2, ρ3, M2, F, p3, s2.next t3 f3 r3, ea, fun σ4 _ s4 => ⟨ρ3, M2, F, _, s4, q2, ?_⟩⟩
    have nxt : ∀ ρ' M' σ' H', forGo T g w D0 (T.items.drop (i + 1)) ρ' M' → TupS X.K H3 H' → Frm F H3 H' M' → Stt X.K H' σ' ρ' M' F → ∃ ρ' M', Stt X.K H' σ' ρ' M' F ∧ TupS X.K H H' ∧ Frm F H H' M' ∧ TupS X.K H1 H' ∧ forGo T g w D0 (T.items.drop (i + 1)) ρ' M' :=
      fun ρ' M' σ' H' q' t' f' s' => ⟨ρ', M', s', (t2.trans t3).trans t', (f2.trans f3).trans f', (tt2.trans t3).trans t', q'⟩
    have g3 := ((gg.from t2 f2).from t3 f3)
    exact ⟨nxt, g3.rt, g3.nx, nxt⟩
  · have e : i = T.items.length := by omega
    subst e
    rw [List.drop_length] at q2
    unfold forGo at q2
    exact .inl ⟨(it H2 M2 tt2 s2.rm q2.1 _).2 rfl, gg.nx ρ2 M2 σ2 H2 q2.2 t2 f2 s2⟩
def wWhile (t : WT) (wb : WS) : WS := fun D0 ρ M => ∃ W : Nat → Ro → Mp → Prop, (∃ m, W m ρ M) ∧ ∀ m ρ M, W m ρ M → t ρ M fun b M1 => if b = true then wb { D0 with nx := fun ρ' M' => ∃ m', m' < m ∧ W m' ρ' M', ct := fun ρ' M' => ∃ m', m' < m ∧ W m' ρ' M', bk := D0.nx } ρ M1 else D0.nx ρ M1
theorem psd_while {wt : WT} {w : WS} (hp : PassesOwn (model X.prog X.w) X.A X.env X.xe) (hc : PT X c (tDT X.K wt)) (hb : PSs X sts (tDS X.K w)) : PS X (.While c sts [] pos) (tDS X.K (wWhile wt w)) := (ps_while hp hc hb).imp fun D σ H => by
  rintro ⟨ρ, M, F, D0, s, ⟨W, ⟨m0, w0⟩, turn⟩, gg⟩
  refine ⟨fun m σ' H' => ∃ ρ' M', Stt X.K H' σ' ρ' M' F ∧ TupS X.K H H' ∧ Frm F H H' M' ∧ W m ρ' M', ⟨m0, ρ, M, s, .refl _, s.fr.frm, w0⟩, ?_⟩
  rintro m σ1 H1 ⟨ρ1, M1, s1, t1, f1, w1⟩
  refine ⟨ρ1, M1, F, _, s1, turn m ρ1 M1 w1, fun b M2 H2 q2 t2 f2 r2 => ?_⟩
  cases b with
  | true =>
    rw [if_pos rfl] at q2 ⊢
    refine ⟨fun σ' H' => ∃ m', m' < m ∧ ∃ ρ' M', Stt X.K H' σ' ρ' M' F ∧ TupS X.K H H' ∧ Frm F H H' M' ∧ W m' ρ' M', fun σ' H' h => h, ρ1, M2, F, _, s1.next t2 f2 r2, q2, ?_⟩
    have nxt : ∀ ρ' M' σ' H', (∃ m', m' < m ∧ W m' ρ' M') → TupS X.K H2 H' → Frm F H2 H' M' → Stt X.K H' σ' ρ' M' F → ∃ m', m' < m ∧ ∃ ρ' M', Stt X.K H' σ' ρ' M' F ∧ TupS X.K H H' ∧ Frm F H H' M' ∧ W m' ρ' M' :=
      fun ρ' M' σ' H' ⟨m', hm, q'⟩ t' f' s' => ⟨m', hm, ρ', M', s', (t1.trans t2).trans t', (f1.trans f2).trans f', q'⟩
    have g3 := ((gg.from t1 f1).from t2 f2)
    exact ⟨nxt, g3.rt, g3.nx, nxt⟩
  | false =>
    rw [if_neg Bool.false_ne_true] at q2 ⊢
    exact gg.nx ρ1 M2 σ1 H2 q2 (t1.trans t2) (f1.trans f2) (s1.next t2 f2 r2)
end
end DL
namespace DL
open PySem L2
variable {K : PySem.W.Frag}
def lcIn (T : DIt) (g : Tg) (wt : WT) (we : WE) (ρ : Ro) (fin : List D → Mp → Prop) : List D → List D → Mp → Prop
  | [], acc, M => T.keep M ∧ fin acc M
  | x :: xs, acc, M => T.keep M ∧ ∃ ρ1, g.asn x ρ = some ρ1 ∧ wt ρ1 M fun b M1 => if b = true then we ρ1 M1 fun d M2 => acc.length < sizeLine ∧ lcIn T g wt we ρ fin xs (acc ++ [d]) M2 else lcIn T g wt we ρ fin xs acc M1
def lc2Go (T : DIt) (g : Tg) (wt : WT) (wi1 : WI) (g1 : Tg) (wt1 : WT) (we : WE) (vs1 : List Nat) (ρ : Ro) (fin : List D → Mp → Prop) : List D → List D → Mp → Prop
  | [], acc, M => T.keep M ∧ fin acc M
  | x :: xs, acc, M => T.keep M ∧ ∃ ρ1, g.asn x ρ = some ρ1 ∧ wt ρ1 M fun b M1 => if b = true then wi1 ρ1 M1 fun T1 M2 => lcIn T1 g1 wt1 we (wipeD ρ1 vs1) (fun acc M3 => lc2Go T g wt wi1 g1 wt1 we vs1 ρ fin xs acc M3) T1.items acc M2 else lc2Go T g wt wi1 g1 wt1 we vs1 ρ fin xs acc M1
def wLc2 (wi : WI) (g : Tg) (wt : WT) (wi1 : WI) (g1 : Tg) (wt1 : WT) (we : WE) (vs vs1 : List Nat) : WE := fun ρ M Q => wi ρ M fun T M1 => lc2Go T g wt wi1 g1 wt1 we vs1 (wipeD ρ vs) (fun acc M2 => ∀ p, M2 p = none → Q (.ref p) (up M2 p (.lst acc))) T.items [] M1
structure LcS (K : PySem.W.Frag) (F : Addr → Prop) (D : Addr) (H H1 : Hp) (acc : List DL.D) (vacc : List V) (M : Mp) (H' : Hp) : Prop where
  at_ : H' D = some (.lst vacc)
  ra : Reps K H' acc vacc
  rm : RepM K H' M
  fr : FrOk (fun a => F a ∨ a = D) H' M
  t0 : TupS K H H'
  f0 : Frm F H H' M
  t1 : TupS K H1 H'
theorem LcS.step {F : Addr → Prop} {D : Addr} {H H1 H2 H3 : Hp} {acc : List DL.D} {vacc : List V} {M2 M3 : Mp} (s : LcS K F D H H1 acc vacc M2 H2) (t : TupS K H2 H3) (f : Frm (fun a => F a ∨ a = D) H2 H3 M3) (r : RepM K H3 M3) : LcS K F D H H1 acc vacc M3 H3 :=
  ⟨by rw [(f D (.inr rfl)).1]; exact s.at_, s.ra.stay t, r, s.fr.next f, s.t0.trans t, s.f0.trans fun a ha => f a (.inl ha), s.t1.trans t⟩
theorem LcS.add {F : Addr → Prop} {D : Addr} {H H1 H2 : Hp} {acc : List DL.D} {vacc : List V} {M : Mp} {d : DL.D} {y : V} (s : LcS K F D H H1 acc vacc M H2) (nF : ∀ a, F a → a ≠ D) (p : Rep K H2 d y) : LcS K F D H H1 (acc ++ [d]) (vacc ++ [y]) M (upd H2 D (.lst (vacc ++ [y]))) ∧ TupS K H2 (upd H2 D (.lst (vacc ++ [y]))) := by
  have tl : TupS K H2 (upd H2 D (.lst (vacc ++ [y]))) := .lst s.at_
  have n5 : M D = none := (s.fr D (.inr rfl)).2
  refine ⟨⟨upd_same, (s.ra.snoc p).stay tl, s.rm.off n5 s.at_, fun a ha => ?_, s.t0.trans tl, fun a ha => ?_, s.t1.trans tl⟩, tl⟩
  · rcases ha with ha | rfl
    · exact ⟨by rw [upd_ne (nF a ha)]; exact (s.fr a (.inl ha)).1, (s.fr a (.inl ha)).2⟩
    · exact ⟨⟨_, upd_same, lst_no⟩, n5⟩
  · have e := s.f0 a ha
    exact ⟨by rw [upd_ne (nF a ha)]; exact e.1, e.2⟩
theorem lc2_of {wi wi1 : WI} {g g1 : Tg} {wt wt1 : WT} {we : WE} {vs vs1 : List Nat} (hg : ∀ j ∈ g.slots, j ∈ vs) (hg1 : ∀ j ∈ g1.slots, j ∈ vs1) {σ : St} {H : Hp} {Q : VK} (h : tD K (wLc2 wi g wt wi1 g1 wt1 we vs vs1) σ H Q) :
    tLc2 (iD K wi) (gD K g) (tDT K wt) (iD K wi1) (gD K g1) (tDT K wt1) (tD K we) vs vs1 σ H Q := by
  obtain ⟨ρ, M, F, Q0, s, q, gg⟩ := h
  refine ⟨ρ, M, F, _, s, q, fun T M1 J H1 q1 t1 f1 r1 it => ?_⟩
  intro D hD
  have fr1 := s.fr.next f1
  have nF : ∀ a, F a → a ≠ D := fun a ha z => by obtain ⟨⟨o, e, _⟩, _⟩ := fr1 a ha; rw [z, hD] at e; cases e
  generalize hfin : (fun acc M2 => ∀ p, M2 p = none → Q0 (.ref p) (up M2 p (.lst acc))) = fin at q1
  refine ⟨fun i m H' => m = T.items.length - i ∧ i ≤ T.items.length ∧ ∃ acc vacc M', LcS K F D H H1 acc vacc M' H' ∧ lc2Go T g wt wi1 g1 wt1 we vs1 (wipeD ρ vs) fin (T.items.drop i) acc M', ⟨T.items.length, rfl, Nat.zero_le _, [], [], M1, ⟨upd_same, .nil, r1.more hD, fun a ha => ?_, t1.trans (.new hD), f1.trans (fr1.more hD), .new hD⟩, q1⟩, ?_⟩
  · rcases ha with ha | rfl
    · exact ⟨by rw [upd_ne (nF a ha)]; exact (fr1 a ha).1, (fr1 a ha).2⟩
    · exact ⟨⟨_, upd_same, lst_no⟩, r1.none hD⟩
  · rintro i m H2 ⟨rfl, hi, acc, vacc, M2, S2, q2⟩
    by_cases hlt : i < T.items.length
    · rw [List.drop_eq_getElem_cons hlt] at q2
      unfold lc2Go at q2
      obtain ⟨hk, ρ1, ea, q2⟩ := q2
      obtain ⟨go, yl⟩ := (it H2 M2 S2.t1 S2.rm hk i).1 hlt
      refine .inr ⟨go, fun H' => ∃ acc vacc M', LcS K F D H H1 acc vacc M' H' ∧ lc2Go T g wt wi1 g1 wt1 we vs1 (wipeD ρ vs) fin (T.items.drop (i + 1)) acc M', fun H' ⟨acc, vacc, M', h1, h2⟩ => ⟨T.items.length - (i + 1), by omega, rfl, hlt, acc, vacc, M', h1, h2⟩, fun x H3 hy => ?_⟩
      obtain ⟨d, ed, t3, k3, r3, p3⟩ := yl x H3 hy
      rw [List.getElem?_eq_getElem hlt] at ed
      cases ed
      have f3 : Frm (fun a => F a ∨ a = D) H2 H3 M2 := .of_same S2.fr k3
      have S3 := S2.step t3 f3 r3
      have s3 : Stt K H3 (L2.wipe σ vs) (wipeD ρ vs) M2 (fun a => F a ∨ a = D) := by
        refine ⟨?_, r3, S3.fr⟩
        have e := s.rs.wipe vs
        exact ⟨e.1, fun i d h => let ⟨v, e1, e2⟩ := e.2 i d h; ⟨v, e1, e2.stay S3.t0⟩⟩
      refine ⟨_, wipeD ρ vs, ρ1, M2, _, p3, s3, ea, fun σ2 o2 s2 => ⟨wipe_off (o2.mono hg), ρ1, M2, _, _, s2, q2, fun b M4 H4 q4 t4 f4 r4 => ?_⟩⟩
      have S4 := S3.step t4 f4 r4
      cases b with
      | false =>
        rw [if_neg Bool.false_ne_true] at q4
        show if false = true then _ else _
        rw [if_neg Bool.false_ne_true]
        exact ⟨acc, vacc, M4, S4, q4⟩
      | true =>
        rw [if_pos rfl] at q4
        show if true = true then _ else _
        rw [if_pos rfl]
        have s4 := s2.next t4 f4 r4
        refine ⟨ρ1, M4, _, _, s4, q4, fun T1 M5 J1 H5 q5 t5 f5 r5 it1 => ?_⟩
        have S5 := S4.step t5 f5 r5
        have s5 := s4.next t5 f5 r5
        refine ⟨fun j k H' => k = T1.items.length - j ∧ j ≤ T1.items.length ∧ TupS K H5 H' ∧ ∃ acc vacc M', LcS K F D H H1 acc vacc M' H' ∧ lcIn T1 g1 wt1 we (wipeD ρ1 vs1) (fun acc M3 => lc2Go T g wt wi1 g1 wt1 we vs1 (wipeD ρ vs) fin (T.items.drop (i + 1)) acc M3) (T1.items.drop j) acc M', ⟨T1.items.length, rfl, Nat.zero_le _, .refl _, acc, vacc, M5, S5, q5⟩, ?_⟩
        rintro j k H6 ⟨rfl, hj, u6, acc6, vacc6, M6, S6, q6⟩
        by_cases hlt1 : j < T1.items.length
        · rw [List.drop_eq_getElem_cons hlt1] at q6
          unfold lcIn at q6
          obtain ⟨hk1, ρ2, ea1, q6⟩ := q6
          obtain ⟨go1, yl1⟩ := (it1 H6 M6 u6 S6.rm hk1 j).1 hlt1
          refine .inr ⟨go1, fun H' => TupS K H5 H' ∧ ∃ acc vacc M', LcS K F D H H1 acc vacc M' H' ∧ lcIn T1 g1 wt1 we (wipeD ρ1 vs1) (fun acc M3 => lc2Go T g wt wi1 g1 wt1 we vs1 (wipeD ρ vs) fin (T.items.drop (i + 1)) acc M3) (T1.items.drop (j + 1)) acc M', fun H' ⟨u, acc, vacc, M', h1, h2⟩ => ⟨T1.items.length - (j + 1), by omega, rfl, hlt1, u, acc, vacc, M', h1, h2⟩, fun x H7 hy7 => ?_⟩
          obtain ⟨d7, ed7, t7, k7, r7, p7⟩ := yl1 x H7 hy7
          rw [List.getElem?_eq_getElem hlt1] at ed7
          cases ed7
          have f7 : Frm (fun a => F a ∨ a = D) H6 H7 M6 := .of_same S6.fr k7
          have S7 := S6.step t7 f7 r7
          have s7 : Stt K H7 (L2.wipe σ2 vs1) (wipeD ρ1 vs1) M6 (fun a => F a ∨ a = D) := by
            refine ⟨?_, r7, S7.fr⟩
            have e := s5.rs.wipe vs1
            exact ⟨e.1, fun i d h => let ⟨v, e1, e2⟩ := e.2 i d h; ⟨v, e1, e2.stay (u6.trans t7)⟩⟩
          refine ⟨_, wipeD ρ1 vs1, ρ2, M6, _, p7, s7, ea1, fun σ3 o3 s8 => ⟨wipe_off (o3.mono hg1), ρ2, M6, _, _, s8, q6, fun b M8 H8 q8 t8 f8 r8 => ?_⟩⟩
          have S8 := S7.step t8 f8 r8
          cases b with
          | false =>
            rw [if_neg Bool.false_ne_true] at q8
            show if false = true then _ else _
            rw [if_neg Bool.false_ne_true]
            exact ⟨(u6.trans t7).trans t8, acc6, vacc6, M8, S8, q8⟩
          | true =>
            rw [if_pos rfl] at q8
            show if true = true then _ else _
            rw [if_pos rfl]
            refine ⟨ρ2, M8, _, _, s8.next t8 f8 r8, q8, fun d M9 y H9 q9 t9 f9 r9 p9 => ?_⟩
            have S9 := S8.step t9 f9 r9
            obtain ⟨hz, q9⟩ := q9
            obtain ⟨S10, tl⟩ := S9.add nF p9
            exact ⟨vacc6, S9.at_, by rw [← S9.ra.length]; exact hz, ((u6.trans t7).trans (t8.trans t9)).trans tl, acc6 ++ [d], vacc6 ++ [y], M9, S10, q9⟩
        · have e : j = T1.items.length := by omega
          subst e
          rw [List.drop_length] at q6
          unfold lcIn at q6
          obtain ⟨hk1, q6⟩ := q6
          exact .inl ⟨(it1 H6 M6 u6 S6.rm hk1 _).2 rfl, acc6, vacc6, M6, S6, q6⟩
    · have e : i = T.items.length := by omega
      subst e
      rw [List.drop_length] at q2
      unfold lc2Go at q2
      obtain ⟨hk, q2⟩ := q2
      refine .inl ⟨(it H2 M2 S2.t1 S2.rm hk _).2 rfl, ?_⟩
      subst hfin
      have n2 : M2 D = none := (S2.fr D (.inr rfl)).2
      refine gg _ _ _ H2 (q2 D n2) S2.t0 (fun a ha => ⟨(S2.f0 a ha).1, by rw [up_ne (nF a ha)]; exact (S2.f0 a ha).2⟩) (fun a o ea => ?_) rfl
      by_cases ha : a = D
      · subst ha; rw [up_same] at ea; cases ea; exact ⟨vacc, S2.at_, S2.ra⟩
      · rw [up_ne ha] at ea; exact S2.rm a o ea
section
variable {X : Cx} {pos : Pos}
theorem psd_setLc2 {i : Nat} {y : Str} {py spos : Pos} {elt tg iter tg1 iter1 : Expr} {ifs ifs1 : List Expr} {scope : Scope} {own : List (Str × Nat)} {vs1 : List Nat} {wi wi1 : WI} {g g1 : Tg} {wt wt1 : WT} {we : WE} (hc : X.calm = true) (hN : X.N.Nodup) (hy : X.N[i]? = some y) (hyl : X.env.scope.names.lookup y = some .local)
    (hsw : swapsWith (.ListComp elt [⟨tg, iter, ifs, 0⟩, ⟨tg1, iter1, ifs1, 0⟩] scope pos) (some (.Name y py)) spos.line X.env = pure true) (hi : PI X tg iter (iD X.K wi)) (ok : BlkOk X.N X.env.scope scope own) (hv : ∀ i ∈ vs1, i ∈ own.map (·.2))
    (hg : ∀ (s : Shared) (H : Hp) (C : Addr) (cl : List (Str × Addr)) (fp : List Addr), PG (X.blk s H scope (compEnvC scope cl C X.env) fp) tg (gD X.K g)) (ht : ∀ (s : Shared) (H : Hp) (C : Addr) (cl : List (Str × Addr)) (fp : List Addr), PTs (X.blk s H scope (compEnvC scope cl C X.env) fp) ifs (tDT X.K wt))
    (hi1 : ∀ (s : Shared) (H : Hp) (C : Addr) (cl : List (Str × Addr)) (fp : List Addr), PI (X.blk s H scope (compEnvC scope cl C X.env) fp) tg1 iter1 (iD X.K wi1))
    (hg1 : ∀ (s : Shared) (H : Hp) (C : Addr) (cl : List (Str × Addr)) (fp : List Addr), PG (X.blk s H scope (compEnvC scope cl C X.env) fp) tg1 (gD X.K g1)) (ht1 : ∀ (s : Shared) (H : Hp) (C : Addr) (cl : List (Str × Addr)) (fp : List Addr), PTs (X.blk s H scope (compEnvC scope cl C X.env) fp) ifs1 (tDT X.K wt1))
    (he : ∀ (s : Shared) (H : Hp) (C : Addr) (cl : List (Str × Addr)) (fp : List Addr), PE (X.blk s H scope (compEnvC scope cl C X.env) fp) elt (tD X.K we)) (hs : ∀ x, foldedSetIterable iter X.env x = pure x) (hs1 : ∀ env x, foldedSetIterable iter1 env x = pure x) (hgs : ∀ j ∈ g.slots, j ∈ own.map (·.2)) (hgs1 : ∀ j ∈ g1.slots, j ∈ vs1) :
    PS X (.Assign [.Name y py] (.ListComp elt [⟨tg, iter, ifs, 0⟩, ⟨tg1, iter1, ifs1, 0⟩] scope pos) spos) (tDS X.K (wAsg (wLc2 wi g wt wi1 g1 wt1 we (own.map (·.2)) vs1) (.name i))) :=
  (ps_setLc2 hc hN hy hyl hsw hi ok hv hg ht hi1 hg1 ht1 he hs hs1).imp fun D σ H => by
    rintro ⟨ρ, M, F, D0, s, q, gg⟩
    refine lc2_of hgs hgs1 ⟨ρ, M, F, _, s, q, fun d M1 v H1 q1 t1 f1 r1 p1 => ?_⟩
    obtain ⟨ρ', e, q1⟩ := q1
    unfold Tg.asn at e
    cases e
    exact gg.nx _ M1 _ H1 q1 t1 f1 ((s.next t1 f1 r1).set p1 i)
theorem pd_lc2 {elt tg iter tg1 iter1 : Expr} {ifs ifs1 : List Expr} {scope : Scope} {own : List (Str × Nat)} {vs1 : List Nat} {wi wi1 : WI} {g g1 : Tg} {wt wt1 : WT} {we : WE} (hc : X.calm = true) (hN : X.N.Nodup) (hi : PI X tg iter (iD X.K wi)) (ok : BlkOk X.N X.env.scope scope own) (hv : ∀ i ∈ vs1, i ∈ own.map (·.2))
    (hg : ∀ (s : Shared) (H : Hp) (C : Addr) (cl : List (Str × Addr)) (fp : List Addr), PG (X.blk s H scope (compEnvC scope cl C X.env) fp) tg (gD X.K g)) (ht : ∀ (s : Shared) (H : Hp) (C : Addr) (cl : List (Str × Addr)) (fp : List Addr), PTs (X.blk s H scope (compEnvC scope cl C X.env) fp) ifs (tDT X.K wt))
    (hi1 : ∀ (s : Shared) (H : Hp) (C : Addr) (cl : List (Str × Addr)) (fp : List Addr), PI (X.blk s H scope (compEnvC scope cl C X.env) fp) tg1 iter1 (iD X.K wi1))
    (hg1 : ∀ (s : Shared) (H : Hp) (C : Addr) (cl : List (Str × Addr)) (fp : List Addr), PG (X.blk s H scope (compEnvC scope cl C X.env) fp) tg1 (gD X.K g1)) (ht1 : ∀ (s : Shared) (H : Hp) (C : Addr) (cl : List (Str × Addr)) (fp : List Addr), PTs (X.blk s H scope (compEnvC scope cl C X.env) fp) ifs1 (tDT X.K wt1))
    (he : ∀ (s : Shared) (H : Hp) (C : Addr) (cl : List (Str × Addr)) (fp : List Addr), PE (X.blk s H scope (compEnvC scope cl C X.env) fp) elt (tD X.K we)) (hs : ∀ x, foldedSetIterable iter X.env x = pure x) (hs1 : ∀ env x, foldedSetIterable iter1 env x = pure x) (hgs : ∀ j ∈ g.slots, j ∈ own.map (·.2)) (hgs1 : ∀ j ∈ g1.slots, j ∈ vs1) :
    PE X (.ListComp elt [⟨tg, iter, ifs, 0⟩, ⟨tg1, iter1, ifs1, 0⟩] scope pos) (tD X.K (wLc2 wi g wt wi1 g1 wt1 we (own.map (·.2)) vs1)) :=
  (pe_lc2 hc hN hi ok hv hg ht hi1 hg1 ht1 he hs hs1).imp fun _ _ _ h => lc2_of hgs hgs1 h
end
end DL
namespace DL
open PySem L2
variable {K : PySem.W.Frag}
def notStar : Expr → Bool
  | .Starred _ _ => false
  | _ => true
theorem star_of {x : Expr} (h : notStar x = true) (xs : List Expr) (env : Env) : starEach (x :: xs) env = (false, eval x env) :: starEach xs env := by
  cases x <;> first | rfl | cases h
theorem stars_of {env : Env} : ∀ {xs : List Expr}, xs.all notStar = true → starEach xs env = xs.map fun x => (false, eval x env)
  | [], _ => rfl
  | x :: xs, h => by
    rw [List.all_cons, Bool.and_eq_true] at h
    rw [star_of h.1, stars_of h.2]
    rfl
theorem back_any {env : Env} {xs : List Expr} {pos : Pos} (h : xs.all notStar = true) : (backTo pos (starEach xs env)).any (·.1) = false := by
  rw [stars_of h]
  unfold backTo
  rw [List.map_map, List.any_map]
  induction xs with
  | nil => rfl
  | cons x xs ih =>
    rw [List.all_cons, Bool.and_eq_true] at h
    rw [List.any_cons, ih h.2]
    rfl
def plainTest : Expr → Bool
  | .UnaryOp .Not _ _ => false
  | .BoolOp _ _ _ => false
  | .IfExp _ _ _ _ => false
  | .Compare _ _ _ _ => false
  | _ => true
theorem test_plain {x : Expr} (h : plainTest x = true) (env : Env) (whole : Sem Value) : isTrue x env whole = (do let v ← whole; standAt x.pos; holding [v] (truthy v)) := by
  cases x with
  | UnaryOp op a p => cases op <;> first | rfl | cases h
  | BoolOp => cases h
  | IfExp => cases h
  | Compare => cases h
  | _ => rfl
def plainBase : Expr → Bool
  | .Call (.Name _ _) (_ :: _) _ _ => true
  | .Call _ _ _ _ => false
  | _ => true
theorem base_plain {x : Expr} (h : plainBase x = true) (f : Str) (env : Env) (whole : Sem Value) : attributeBase x f env whole = whole := by
  cases x with
  | Call g xs ks p => cases g <;> first | (cases xs <;> first | rfl | cases h) | cases h
  | _ => rfl
def notSlice : Expr → Bool
  | .Slice _ _ _ _ => false
  | _ => true
theorem ix_plain {x : Expr} (h : notSlice x = true) : PlainIx x := fun o i => by
  cases x <;> first | rfl | cases h
def notSet : Expr → Bool
  | .Set _ _ _ => false
  | _ => true
theorem set_plain {x : Expr} (h : notSet x = true) (env : Env) (v : Value) : foldedSetIterable x env v = pure v := by
  cases x <;> first | rfl | cases h
def isComp : Expr → Bool
  | .ListComp _ _ _ _ => true
  | .SetComp _ _ _ _ => true
  | .DictComp _ _ _ _ _ => true
  | _ => false
theorem swaps_plain {x : Expr} (h : isComp x = false) (t : Option Expr) (l : Nat) (env : Env) : swapsWith x t l env = pure false := by
  cases x <;> first | rfl | cases h
theorem swapped_name {x : Expr} {y : Str} {p : Pos} (env : Env) : swappedStores [.Name y p] x env = pure none := rfl
structure Co where
  prog : Program
  w : World
  K : PySem.W.Frag
  mg : Str → Option Value
  base : Heap
  A : Around
def co (X : Cx) : Co := ⟨X.prog, X.w, X.K, X.mg, X.base, X.A⟩
def Callee (c : Co) (x : Str) (n : Nat) (ks : List Str) (S : Spec) : Prop := ∃ f, c.mg x = some (.ref f) ∧ PySem.W.keepIn c.K (.ref f) = true ∧
  ∀ (X : Cx), co X = c → X.calm = true → ∀ (pins : List (Addr × Obj)) (s : Shared) (σ : St) (H : Hp) (Q : VK) (us ws : List Value) (vs zs : List V), Inv X pins σ H s → Vals vs us → Vals zs ws → vs.length = n → zs.length = ks.length →
    rDL X.K S (vs ++ zs) H Q → wpAny (model X.prog X.w) X.A (call (.ref f) us (ks.zip ws)) (EP X pins σ Q) X.xe s
def spD (K : PySem.W.Frag) (S : Spec) : Sp := fun vs H Q _ => rDL K S vs H Q
section
variable {X : Cx} {a b c : Expr} {wa wb wc : WE} {pos : Pos}
def GoN (K : PySem.W.Frag) (n : Nat) (F : Addr → Prop) (H : Hp) (Q0 : List D → Mp → Prop) (Q : List V → Hp → Prop) : Prop := ∀ ds M' vs H', vs.length = n → Q0 ds M' → TupS K H H' → Frm F H H' M' → RepM K H' M' → Reps K H' ds vs → Q vs H'
def tDN (K : PySem.W.Frag) (n : Nat) (w : WA) : TA := fun σ H Q => ∃ ρ M F Q0, Stt K H σ ρ M F ∧ w ρ M Q0 ∧ GoN K n F H Q0 Q
theorem pdn_nil : PA X [] (tDN X.K 0 wNil) := pa_nil.imp fun σ H Q => by
  rintro ⟨ρ, M, F, Q0, s, q, g⟩
  exact g [] M [] H rfl q (.refl _) s.fr.frm s.rm .nil
theorem cons_of {w : WE} {u : WA} {n : Nat} {σ : St} {H : Hp} {Q : List V → Hp → Prop} (h : tDN K (n + 1) (wCons w u) σ H Q) : tCons (tD K w) (tDN K n u) σ H Q := by
  obtain ⟨ρ, M, F, Q0, s, q, g⟩ := h
  refine ⟨ρ, M, F, _, s, q, fun x M1 v H1 q1 t1 f1 r1 p1 => ⟨ρ, M1, F, _, s.next t1 f1 r1, q1, fun ds M2 vs H2 hl q2 t2 f2 r2 p2 => ?_⟩⟩
  exact g _ M2 _ H2 (by rw [List.length_cons, hl]) q2 (t1.trans t2) (f1.trans f2) r2 (.cons (p1.stay t2) p2)
theorem pdn_cons {es : List Expr} {u : WA} {n : Nat} (ha : PE X a (tD X.K wa)) (hr : PA X es (tDN X.K n u)) (hs : starEach (a :: es) X.env = (false, eval a X.env) :: starEach es X.env) : PA X (a :: es) (tDN X.K (n + 1) (wCons wa u)) := (pa_cons ha hr hs).imp fun _ _ _ h => cons_of h
theorem pdn_a {es : List Expr} {u : WA} {n : Nat} (h : PA X es (tDN X.K n u)) : PA X es (tDA X.K u) := h.imp fun σ H Q => by
  rintro ⟨ρ, M, F, Q0, s, q, g⟩
  exact ⟨ρ, M, F, Q0, s, q, fun ds M' vs H' _ q t f r p => g ds M' vs H' q t f r p⟩
theorem _root_.L2.PK.imp {kws : List Keyword} {t t' : TA} (h : PK X kws t) (i : ∀ σ H Q, t' σ H Q → t σ H Q) : PK X kws t' := ⟨fun pos pins s σ H Q I q => h.run pos pins s σ H Q I (i σ H Q q)⟩
theorem pdk_nil : PK X [] (tDN X.K 0 wNil) := pk_nil.imp fun σ H Q => by
  rintro ⟨ρ, M, F, Q0, s, q, g⟩
  exact g [] M [] H rfl q (.refl _) s.fr.frm s.rm .nil
theorem pdk_cons {kws : List Keyword} {u : WA} {nm : Option Str} {kpos : Pos} {n : Nat} (ha : PE X a (tD X.K wa)) (hr : PK X kws (tDN X.K n u)) : PK X (⟨nm, a, kpos⟩ :: kws) (tDN X.K (n + 1) (wCons wa u)) := (pk_cons ha hr).imp fun _ _ _ h => cons_of h
theorem pd_call0 {x : Str} {S : Spec} {p : Pos} (hx : Callee (co X) x 0 [] S) (hc : X.calm = true) (hg : Gl X x) (hdb : (x == ("__debug__" : Str)) = false) : PE X (.Call (.Name x p) [] [] pos) (tD X.K (wCall S wNil)) := by
  obtain ⟨f, hm, hk, run⟩ := hx
  refine ⟨fun pins s σ H Q I h => ?_⟩
  refine wpAny_Call_Name_kw (ld_glob I hg hm ?_ hdb)
  obtain ⟨ρ, M, F, Q0, s0, q, g⟩ := h
  exact PySem.W.callWith_K0 I.kIn hk (run X rfl hc pins s σ H Q [] [] [] [] I .nil .nil rfl rfl ⟨[], M, F, Q0, .nil, s0.rm, s0.fr, q, g⟩)
theorem pd_call {x : Str} {n : Nat} {S : Spec} {p : Pos} {e : Expr} {es : List Expr} {u : WA} (hx : Callee (co X) x n [] S) (hc : X.calm = true) (hg : Gl X x) (hdb : (x == ("__debug__" : Str)) = false) (ha : PA X (e :: es) (tDN X.K n u)) (hs : (e :: es).all notStar = true) :
    PE X (.Call (.Name x p) (e :: es) [] pos) (tD X.K (wCall S u)) := by
  obtain ⟨f, hm, hk, run⟩ := hx
  refine ⟨fun pins s σ H Q I h => ?_⟩
  refine wpAny_Call_Name_kw (ld_glob I hg hm ?_ hdb)
  obtain ⟨ρ, M, F, Q0, s0, q, g⟩ := h
  rw [List.all_cons, Bool.and_eq_true] at hs
  refine PySem.W.callWith_K (h₀ := X.base) I.ok.mod.kin hk (thn (ha.run pos pins s σ H (fun vs H1 => vs.length = n ∧ rDL X.K S vs H1 Q) I ⟨ρ, M, F, _, s0, q, fun ds M1 vs H1 hl q1 t1 f1 r1 p1 => ⟨hl, ds, M1, F, Q0, p1, r1, s0.fr.next f1, q1, g.from t1 f1⟩⟩) fun us s1 ⟨vs, H1, I1, r, hl, q⟩ => ⟨I1.kIn, ?_⟩) (star_of hs.1 _ _) (back_any hs.2)
  exact run X rfl hc pins s1 σ H1 Q us [] vs [] I1 r .nil hl rfl (by rw [List.append_nil]; exact q)
def wCallK (S : Spec) (u uk : WA) : WE := fun ρ M Q => u ρ M fun ds M1 => uk ρ M1 fun es M2 => S (ds ++ es) M2 Q
def kwNames : List Keyword → List (Option Str)
  | [] => []
  | ⟨n, _, _⟩ :: r => n :: kwNames r
theorem kw_all {env : Env} {pos : Pos} : ∀ {kws : List Keyword} {ks : List Str}, kwNames kws = ks.map some → (backToKw pos (keywordEach kws env)).all (·.1.isSome) = true ∧ (backToKw pos (keywordEach kws env)).filterMap (·.1) = ks ∧ (backToKw pos (keywordEach kws env)).any (·.1.isNone) = false
  | [], [], _ => ⟨rfl, rfl, rfl⟩
  | [], _ :: _, h => by cases h
  | ⟨n, v, q⟩ :: r, [], h => by cases h
  | ⟨n, v, q⟩ :: r, k :: ks, h => by
    have h' : n :: kwNames r = some k :: ks.map some := h
    injection h' with h1 h2
    subst h1
    obtain ⟨a1, a2, a3⟩ := kw_all (env := env) (pos := pos) h2
    refine ⟨?_, ?_, ?_⟩
    · show (_ && (backToKw pos (keywordEach r env)).all (·.1.isSome)) = true
      rw [a1]; rfl
    · show k :: (backToKw pos (keywordEach r env)).filterMap (·.1) = k :: ks
      rw [a2]
    · show (_ || (backToKw pos (keywordEach r env)).any (·.1.isNone)) = false
      rw [a3]; rfl
theorem run_kw {n m : Nat} {S : Spec} {u uk : WA} {σ : St} {H : Hp} {Q : VK} (h : tD K (wCallK S u uk) σ H Q) : tDN K n u σ H fun vs H1 => tDN K m uk σ H1 fun zs H2 => vs.length = n ∧ zs.length = m ∧ rDL K S (vs ++ zs) H2 Q := by
  obtain ⟨ρ, M, F, Q0, s, q, g⟩ := h
  refine ⟨ρ, M, F, _, s, q, fun ds M1 vs H1 hl q1 t1 f1 r1 p1 => ⟨ρ, M1, F, _, s.next t1 f1 r1, q1, fun es M2 zs H2 hl2 q2 t2 f2 r2 p2 => ⟨hl, hl2, ds ++ es, M2, F, Q0, (p1.stay t2).append p2, r2, (s.fr.next f1).next f2, q2, (g.from t1 f1).from t2 f2⟩⟩⟩
theorem pd_callK {x : Str} {n : Nat} {ks : List Str} {S : Spec} {p : Pos} {e : Expr} {es : List Expr} {kws : List Keyword} {u uk : WA} (hx : Callee (co X) x n ks S) (hc : X.calm = true) (hg : Gl X x) (hdb : (x == ("__debug__" : Str)) = false) (ha : PA X (e :: es) (tDN X.K n u)) (hs : (e :: es).all notStar = true)
    (hk : PK X kws (tDN X.K ks.length uk)) (hks : kwNames kws = ks.map some) : PE X (.Call (.Name x p) (e :: es) kws pos) (tD X.K (wCallK S u uk)) := by
  obtain ⟨f, hm, hkp, run⟩ := hx
  obtain ⟨a1, a2, a3⟩ := kw_all (env := X.env) (pos := pos) hks
  refine ⟨fun pins s σ H Q I h => ?_⟩
  refine wpAny_Call_Name_kw (ld_glob I hg hm ?_ hdb)
  have hs' := hs
  rw [List.all_cons, Bool.and_eq_true] at hs'
  refine PySem.W.callWith_KW (h₀ := X.base) I.ok.mod.kin hkp a1 (thn (ha.run pos pins s σ H _ I (run_kw (m := ks.length) h)) fun us s1 ⟨vs, H1, I1, r, q⟩ => ?_) (by rw [back_any hs, a3]; rfl) (star_of hs'.1 _ _)
  refine thn (hk.run pos pins s1 σ H1 _ I1 q) fun ws s2 ⟨zs, H2, I2, rz, l1, l2, q2⟩ => ⟨I2.kIn, ?_⟩
  rw [a2]
  exact run X rfl hc pins s2 σ H2 Q us ws vs zs I2 r rz l1 l2 q2
theorem pd_callK0 {x : Str} {ks : List Str} {S : Spec} {p : Pos} {kws : List Keyword} {uk : WA} (hx : Callee (co X) x 0 ks S) (hc : X.calm = true) (hg : Gl X x) (hdb : (x == ("__debug__" : Str)) = false)
    (hk : PK X kws (tDN X.K ks.length uk)) (hks : kwNames kws = ks.map some) : PE X (.Call (.Name x p) [] kws pos) (tD X.K (wCallK S wNil uk)) := by
  obtain ⟨f, hm, hkp, run⟩ := hx
  obtain ⟨a1, a2, a3⟩ := kw_all (env := X.env) (pos := pos) hks
  refine ⟨fun pins s σ H Q I h => ?_⟩
  refine wpAny_Call_Name_kw (ld_glob I hg hm ?_ hdb)
  obtain ⟨ρ, M, F, Q0, s0, q, g⟩ := h
  refine PySem.W.callWith_KW0 (h₀ := X.base) I.ok.mod.kin hkp a1 (thn (hk.run pos pins s σ H (fun zs H2 => zs.length = ks.length ∧ rDL X.K S zs H2 Q) I ⟨ρ, M, F, _, s0, q, fun es M2 zs H2 hl2 q2 t2 f2 r2 p2 => ⟨hl2, es, M2, F, Q0, p2, r2, s0.fr.next f2, q2, g.from t2 f2⟩⟩) fun ws s2 ⟨zs, H2, I2, rz, l2, q2⟩ => ⟨I2.kIn, ?_⟩) (by rw [a3]; rfl)
  rw [a2]
  exact run X rfl hc pins s2 σ H2 Q [] ws [] zs I2 .nil rz rfl l2 q2
structure Cf (K : PySem.W.Frag) (C : Addr) (f : Str) : Prop where
  cl : Cls K C
  no : NoAttr K C f
def fldD (C : Addr) (f : Str) : D → Mp → DQ → Prop := fun x M Q => ∃ a fs d, x = .ref a ∧ M a = some (.ins C fs) ∧ fs.lookup f = some d ∧ Q d M
theorem pd_fld {C : Addr} {f : Str} (h : Cf X.K C f) (ha : PE X a (tD X.K wa)) (hb : plainBase a = true) : PE X (.Attribute a f pos) (tD X.K (w1 (fldD C f) wa)) := (pe_fld ha (base_plain hb _ _ _)).imp fun σ H Q => by
  rintro ⟨ρ, M, F, Q0, s, q, g⟩
  refine ⟨ρ, M, F, _, s, q, fun x M1 v H1 q1 t1 f1 r1 p1 => ?_⟩
  obtain ⟨p, fs, d, rfl, e, l, q1⟩ := q1
  cases p1
  obtain ⟨dx, vs, e1, ps⟩ := r1 _ _ e
  obtain ⟨v, l1, rv⟩ := ps.lookup l
  exact ⟨p, C, dx, vs, v, rfl, e1, h.cl, h.no, l1, g _ M1 _ H1 q1 t1 f1 r1 rv⟩
def putD (f : Str) (v : D) : List (Str × D) → List (Str × D)
  | [] => [(f, v)]
  | (k, u) :: r => if k = f then (f, v) :: r else (k, u) :: putD f v r
end
end DL
namespace DL
open PySem L2
variable {K : PySem.W.Frag}
section
variable {X : Cx} {a b c : Expr} {wa wb wc : WE} {pos apos : Pos}
def tyD (T : String) (d : D) (M : Mp) : Prop := match d with
  | .str _ => T = "str"
  | .ref p => (T = "list" ∧ ∃ ds, M p = some (.lst ds)) ∨ (T = "dict" ∧ ((∃ kvs, M p = some (.dK kvs)) ∨ ∃ kvs, M p = some (.dT kvs)))
  | _ => False
theorem tyD_ok {T : String} {d : D} {M : Mp} {H : Hp} {v : V} (h : tyD T d M) (r : Rep K H d v) (m : RepM K H M) : tyV K T v H := by
  cases d <;> (try exact h.elim)
  · cases r; exact h
  · cases r
    rcases h with ⟨e, ds, h⟩ | ⟨e, ⟨ds, h⟩ | ⟨ds, h⟩⟩
    · obtain ⟨vs, h1, _⟩ := m _ _ h
      exact .inl ⟨e, vs, .of h1⟩
    · obtain ⟨vs, h1, _⟩ := m _ _ h
      exact .inr (.inr (.inl ⟨e, .inl ⟨vs, h1⟩⟩))
    · obtain ⟨vs, h1, _⟩ := m _ _ h
      exact .inr (.inr (.inl ⟨e, .inr ⟨vs, h1⟩⟩))
abbrev MSpec := D → List D → Mp → DQ → Prop
def rDM (K : PySem.W.Frag) (f : MSpec) : V → List V → Hp → VK → Prop := fun x xs H Q => ∃ dx ds M F Q0, Rep K H dx x ∧ Reps K H ds xs ∧ RepM K H M ∧ FrOk F H M ∧ f dx ds M Q0 ∧ Go K F H Q0 Q
theorem _root_.L2.MtR.lift {id : String} {r : V → List V → Hp → VK → Prop} {S : MSpec} (h : MtR X id r) (i : ∀ d ds M F H Q0 Q v vs, Rep X.K H d v → Reps X.K H ds vs → RepM X.K H M → FrOk F H M → S d ds M Q0 → Go X.K F H Q0 Q → r v vs H Q) : MtR X id (rDM X.K S) :=
  fun pins s σ H x xs v us Q I rx rv hh => by
    obtain ⟨d, ds, M, F, Q0, r0, r1, m, fr, hs, g⟩ := hh
    exact h pins s σ H x xs v us Q I rx rv (i d ds M F H Q0 Q x xs r0 r1 m fr hs g)
def wBm (T : String) (f : MSpec) (wo : WE) (u : WA) : WE := fun ρ M Q => wo ρ M fun x M1 => tyD T x M1 ∧ u ρ M1 fun ds M2 => f x ds M2 Q
theorem pd_bm0 {T id : String} {name : Str} {f : MSpec} (pa : PlainAttrs T) (slot : Slot T name id) (hty : typeOf (.builtin id) = pure (.type "method_descriptor")) (hm : MtR X id (rDM X.K f)) (ho : PE X a (tD X.K wa)) (hb : plainBase a = true) (hline : (apos.endLine == pos.line) = true) :
    PE X (.Call (.Attribute a name apos) [] [] pos) (tD X.K (wBm T f wa wNil)) := (pe_bm0 pa slot hty hm ho (base_plain hb _ _ _) hline).imp fun σ H Q => by
  rintro ⟨ρ, M, F, Q0, s, q, g⟩
  refine ⟨ρ, M, F, _, s, q, fun x M1 v H1 q1 t1 f1 r1 p1 => ⟨tyD_ok q1.1 p1 r1, x, [], M1, F, Q0, p1, .nil, r1, s.fr.next f1, q1.2, g.from t1 f1⟩⟩
theorem pd_bm {T id : String} {name : Str} {f : MSpec} {e : Expr} {es : List Expr} {u : WA} (pa : PlainAttrs T) (slot : Slot T name id) (hty : typeOf (.builtin id) = pure (.type "method_descriptor")) (hm : MtR X id (rDM X.K f)) (ho : PE X a (tD X.K wa)) (ha : PA X (e :: es) (tDA X.K u)) (hb : plainBase a = true)
    (hs : (e :: es).all notStar = true) (hl : (e :: es).length < 30) (hline : (apos.endLine == pos.line) = true) :
    PE X (.Call (.Attribute a name apos) (e :: es) [] pos) (tD X.K (wBm T f wa u)) := by
  have hs' := hs
  rw [List.all_cons, Bool.and_eq_true] at hs'
  refine (pe_bm pa slot hty hm ho ha (base_plain hb _ _ _) ?_ hline (star_of hs'.1 _ _) (back_any hs'.2)).imp fun σ H Q => ?_
  · have e1 : (backTo pos (starEach (e :: es) X.env)).all (fun x => !x.1) = true := by
      have := back_any (env := X.env) (pos := pos) hs
      rw [List.all_eq_true]
      intro x hx
      rw [List.any_eq_false] at this
      have := this x hx
      simpa using this
    rw [e1]
    have e2 : decide ((e :: es).length + ([] : List Keyword).length + (if ([] : List Keyword).isEmpty then 0 else 1) < 30) = true := by
      apply decide_eq_true
      simpa using hl
    rw [e2]
    rfl
  · rintro ⟨ρ, M, F, Q0, s, q, g⟩
    refine ⟨ρ, M, F, _, s, q, fun x M1 v H1 q1 t1 f1 r1 p1 => ⟨tyD_ok q1.1 p1 r1, ρ, M1, F, _, s.next t1 f1 r1, q1.2, fun ds M2 vs H2 q2 t2 f2 r2 p2 => ?_⟩⟩
    exact ⟨x, ds, M2, F, Q0, p1.stay t2, p2, r2, (s.fr.next f1).next f2, q2, (g.from t1 f1).from t2 f2⟩
def appendM : MSpec := fun x ds M Q => ∃ p xs y, x = .ref p ∧ ds = [y] ∧ M p = some (.lst xs) ∧ xs.length < sizeLine ∧ Q .non (up M p (.lst (xs ++ [y])))
theorem md_append : MtR X "list.append" (rDM X.K appendM) := MtR.lift (r := rAppend) mt_append fun d ds M F H Q0 Q v vs r0 r1 m fr h g => by
  obtain ⟨p, xs, y, rfl, rfl, e, hz, q⟩ := h
  cases r0
  obtain ⟨u, rfl, r2⟩ := r1.one
  obtain ⟨ws, e1, p1⟩ := m _ _ e
  exact ⟨p, ws, u, rfl, rfl, e1, by rw [← p1.length]; exact hz, g _ _ _ _ q (.lst e1) (fr.put e _) (m.put e ⟨_, upd_same, (p1.snoc r2).stay (.lst e1)⟩) rfl⟩
def extendM : MSpec := fun x ds M Q => ∃ p q xs ys, x = .ref p ∧ ds = [.ref q] ∧ M p = some (.lst xs) ∧ M q = some (.lst ys) ∧ xs.length + ys.length ≤ sizeLine ∧ Q .non (up M p (.lst (xs ++ ys)))
theorem md_extend : MtR X "list.extend" (rDM X.K extendM) := MtR.lift (r := rExtend) mt_extend fun d ds M F H Q0 Q v vs r0 r1 m fr h g => by
  obtain ⟨p, q, xs, ys, rfl, rfl, e, e', hz, h⟩ := h
  cases r0
  obtain ⟨u, rfl, r2⟩ := r1.one
  cases r2
  obtain ⟨ws, e1, p1⟩ := m _ _ e
  obtain ⟨zs, e2, p2⟩ := m _ _ e'
  exact ⟨p, q, ws, zs, rfl, rfl, e1, e2, by rw [← p1.length, ← p2.length]; exact hz, g _ _ _ _ h (.lst e1) (fr.put e _) (m.put e ⟨_, upd_same, (p1.append p2).stay (.lst e1)⟩) rfl⟩
theorem Reps.strs {H : Hp} : ∀ {bs : List Str} {vs : List V}, Reps K H (bs.map D.str) vs → vs = bs.map V.str
  | [], _, h => by unfold Reps at h; exact h
  | b :: bs, _, h => by
    unfold Reps at h
    obtain ⟨v, r, rfl, h1, h2⟩ := h
    cases h1
    rw [Reps.strs h2]
    rfl
def joinM : MSpec := fun x ds M Q => ∃ (z : Str) (d : D) (ys : List Str), x = .str z ∧ ds = [d] ∧ seqD M d (ys.map D.str) ∧ (ys.map (·.length)).sum + ys.length * z.length ≤ 16777216 ∧ Q (.str (Txt.join z ys)) M
theorem md_join : MtR X "str.join" (rDM X.K joinM) := mt_join.lift fun d ds M F H Q0 Q v vs r0 r1 m fr h g => by
  obtain ⟨z, d', ys, rfl, rfl, hs, hz, h⟩ := h
  cases r0
  obtain ⟨u, rfl, r2⟩ := r1.one
  rcases hs with rfl | ⟨p, rfl, e⟩
  · unfold Rep at r2
    obtain ⟨p, ws, rfl, s1, p1⟩ := r2
    rw [p1.strs] at s1
    exact ⟨z, p, ys, rfl, rfl, .inr s1, hz, g _ M _ H h (.refl _) fr.frm m rfl⟩
  · cases r2
    obtain ⟨ws, e1, p1⟩ := m _ _ e
    rw [p1.strs] at e1
    exact ⟨z, p, ys, rfl, rfl, .inl (.of e1), hz, g _ M _ H h (.refl _) fr.frm m rfl⟩
theorem Pairs.put {H : Hp} {f : Str} {d : D} {v : V} (r : Rep K H d v) : ∀ {ds : List (Str × D)} {vs : List (Str × V)}, Pairs K H ds vs → Pairs K H (putD f d ds) (putF f v vs)
  | [], _, h => by
    unfold Pairs at h; subst h
    unfold putD putF Pairs
    exact ⟨v, [], rfl, r, by unfold Pairs; rfl⟩
  | (k, e) :: ds, _, h => by
    unfold Pairs at h
    obtain ⟨u, q, rfl, h1, h2⟩ := h
    unfold putD putF
    by_cases hk : k = f
    · rw [if_pos hk, if_pos hk]
      unfold Pairs
      exact ⟨v, q, by rw [hk], r, h2⟩
    · rw [if_neg hk, if_neg hk]
      unfold Pairs
      exact ⟨u, _, rfl, h1, h2.put r⟩
def wFldS (C : Addr) (f : Str) (wo wv : WE) : WS := fun D0 ρ M => wv ρ M fun y M1 => wo ρ M1 fun x M2 => ∃ p fs, x = .ref p ∧ M2 p = some (.ins C fs) ∧ fs.length < 1000 ∧ D0.nx ρ (up M2 p (.ins C (putD f y fs)))
theorem psd_fld {C : Addr} {f : Str} {pos' : Pos} (h : Cf X.K C f) (ho : PE X a (tD X.K wa)) (hv : PE X b (tD X.K wb)) (hs : swapsWith b (some (.Attribute a f pos')) pos.line X.env = pure false) : PS X (.Assign [.Attribute a f pos'] b pos) (tDS X.K (wFldS C f wa wb)) :=
  (ps_fld ho hv hs).imp fun D σ H => by
    rintro ⟨ρ, M, F, D0, s, q, g⟩
    refine ⟨ρ, M, F, _, s, q, fun y M1 v H1 q1 t1 f1 r1 p1 => ⟨ρ, M1, F, _, s.next t1 f1 r1, q1, fun x M2 u H2 q2 t2 f2 r2 p2 => ?_⟩⟩
    obtain ⟨p, fs, rfl, e, hl, q2⟩ := q2
    cases p2
    obtain ⟨dx, vs, e1, ps⟩ := r2 _ _ e
    have fr2 := (s.fr.next f1).next f2
    have tt : TupS X.K H2 (upd H2 p (.ins C dx (putF f v vs))) := .ins e1
    have rm : RepM X.K (upd H2 p (.ins C dx (putF f v vs))) (up M2 p (.ins C (putD f y fs))) := r2.put e ⟨dx, _, upd_same, (ps.put (p1.stay t2)).stay tt⟩
    have ff := fr2.put (u := .ins C dx (putF f v vs)) e (.ins C (putD f y fs))
    refine ⟨p, C, dx, vs, rfl, e1, h.cl, h.no, by rw [← ps.length]; exact hl, ?_⟩
    exact g.nx ρ _ σ _ q2 ((t1.trans t2).trans tt) ((f1.trans f2).trans ff) (((s.next t1 f1 r1).next t2 f2 r2).next tt ff rm)
def wPar (i j : Nat) (u : WA) : WS := fun D0 ρ M => u ρ M fun ds M1 => ∃ d e, ds = [d, e] ∧ D0.nx ((ρ.set i (some d)).set j (some e)) M1
def wPar3 (i j l : Nat) (u : WA) : WS := fun D0 ρ M => u ρ M fun ds M1 => ∃ d e f, ds = [d, e, f] ∧ D0.nx (((ρ.set i (some d)).set j (some e)).set l (some f)) M1
theorem psd_par {i j : Nat} {st : Stmt} {es : List Expr} {u : WA} (hp : ∀ t : TA, PA X es t → PS X st (tPar i j t)) (ha : PA X es (tDA X.K u)) : PS X st (tDS X.K (wPar i j u)) := (hp _ ha).imp fun D σ H => by
  rintro ⟨ρ, M, F, D0, s, q, g⟩
  refine ⟨ρ, M, F, _, s, q, fun ds M1 vs H1 q1 t1 f1 r1 p1 => ?_⟩
  obtain ⟨d, e, rfl, q1⟩ := q1
  obtain ⟨v, w, rfl, p2, p3⟩ := p1.two
  exact ⟨v, w, rfl, g.nx _ M1 _ H1 q1 t1 f1 (((s.next t1 f1 r1).set p2 i).set p3 j)⟩
theorem psd_par3 {i j l : Nat} {st : Stmt} {es : List Expr} {u : WA} (hp : ∀ t : TA, PA X es t → PS X st (tPar3 i j l t)) (ha : PA X es (tDA X.K u)) : PS X st (tDS X.K (wPar3 i j l u)) := (hp _ ha).imp fun D σ H => by
  rintro ⟨ρ, M, F, D0, s, q, g⟩
  refine ⟨ρ, M, F, _, s, q, fun ds M1 vs H1 q1 t1 f1 r1 p1 => ?_⟩
  obtain ⟨d, e, f, rfl, q1⟩ := q1
  unfold Reps at p1
  obtain ⟨v, vs, rfl, p2, p1'⟩ := p1
  obtain ⟨w, z, rfl, p3, p4⟩ := p1'.two
  exact ⟨v, w, z, rfl, g.nx _ M1 _ H1 q1 t1 f1 ((((s.next t1 f1 r1).set p2 i).set p3 j).set p4 l)⟩
def wSetI (wo wi wv : WE) : WS := fun D0 ρ M => wv ρ M fun y M1 => wo ρ M1 fun x M2 => wi ρ M2 fun z M3 => ∃ p ds k j, x = .ref p ∧ z = .int k ∧ M3 p = some (.lst ds) ∧ ixN ds.length k = some j ∧ D0.nx ρ (up M3 p (.lst (ds.set j y)))
theorem psd_setI {i : Expr} {wi : WE} {pos' : Pos} (ho : PE X a (tD X.K wa)) (hi : PE X i (tD X.K wi)) (hv : PE X b (tD X.K wb)) (hs : swapsWithSole [.Subscript a i pos'] b pos.line X.env = pure false) (hw : swappedStores [.Subscript a i pos'] b X.env = pure none) (hns : notSlice i = true) :
    PS X (.Assign [.Subscript a i pos'] b pos) (tDS X.K (wSetI wa wi wb)) := (ps_asg hv (pg_sub ho hi set_list (by intro v; cases i <;> first | rfl | cases hns)) hs hw rfl).imp fun D σ H => by
  rintro ⟨ρ, M, F, D0, s, q, g⟩
  refine ⟨ρ, M, F, _, s, q, fun y M1 v H1 q1 t1 f1 r1 p1 => ⟨ρ, M1, F, _, s.next t1 f1 r1, q1, fun x M2 u H2 q2 t2 f2 r2 p2 => ⟨ρ, M2, F, _, (s.next t1 f1 r1).next t2 f2 r2, q2, fun z M3 w H3 q3 t3 f3 r3 p3 => ?_⟩⟩⟩
  obtain ⟨p, ds, k, j, rfl, rfl, e, ej, q3⟩ := q3
  cases p2
  cases p3
  obtain ⟨vs, e1, ps⟩ := r3 _ _ e
  have fr3 := ((s.fr.next f1).next f2).next f3
  have tt : TupS X.K H3 (upd H3 p (.lst (vs.set j v))) := .lst e1
  have ff := fr3.put (u := .lst (vs.set j v)) e (.lst (ds.set j y))
  refine ⟨p, vs, k, j, rfl, rfl, e1, by rw [← ps.length]; exact ej, ?_⟩
  exact g.nx ρ _ σ _ q3 (((t1.trans t2).trans t3).trans tt) (((f1.trans f2).trans f3).trans ff) ((((s.next t1 f1 r1).next t2 f2 r2).next t3 f3 r3).next tt ff (r3.put e ⟨_, upd_same, (ps.set (p1.stay (t2.trans t3)) j).stay tt⟩))
theorem rDL.len {S : Spec} {n : Nat} (hS : ∀ ds M Q, S ds M Q → ds.length = n) {K : PySem.W.Frag} {vs : List V} {H : Hp} {Q : VK} (h : rDL K S vs H Q) : vs.length = n := by
  obtain ⟨ds, M, F, Q0, r, _, _, h, _⟩ := h
  rw [← r.length]
  exact hS _ _ _ h
theorem Callee.fn {c : Co} {x : Str} {n k : Nat} {S : Spec} {f : Addr} {fd : FuncData} {ps : List Str} (F : FnOk c.prog c.w c.K c.mg c.base CX0 k f fd ps (spD c.K S)) (hr : Room k c.A) (hm : c.mg x = some (.ref f)) (hk : PySem.W.keepIn c.K (.ref f) = true) (hb : Binds c.K fd ps []) : Callee c x n [] S := by
  refine ⟨f, hm, hk, ?_⟩
  rintro X rfl hc pins s σ H Q us ws vs zs I r rz hl hz h
  have e : zs = [] := List.eq_nil_of_length_eq_zero hz
  subst e
  cases rz
  rw [List.append_nil] at h
  exact run_fn (vs := vs) F hr hb .nil pass0 I r (by rw [List.append_nil]; exact h)
def makeS (C : Addr) (S : Spec) (gD : List D → List D) : Spec := fun ds M Q => ∀ x, M x = none → S (gD (.ref x :: ds)) (up M x (.ins C [])) fun d M' => d = .non ∧ Q (.ref x) M'
theorem Callee.makeK {c : Co} {x : Str} {n k : Nat} {ks : List Str} {S : Spec} {f C : Addr} {fd : FuncData} {ps : List Str} {g : List Value → List Value → List Value} {gV : List V → List V → List V} {gD : List D → List D} (Mk' : Mk c.K C f) (F : FnOk c.prog c.w c.K c.mg c.base CX0 k f fd ps (spD c.K S)) (hr : Room (k + 1) c.A) (hm : c.mg x = some (.ref C))
    (hb : KBn c.K fd ps (n + 1) ks g gV) (hg : ∀ H ds vs zs, vs.length = n → zs.length = ks.length → Reps c.K H ds (vs ++ zs) → ∀ x, Reps c.K H (gD (.ref x :: ds)) (gV (.ref x :: vs) zs)) : Callee c x n ks (makeS C S gD) := by
  refine ⟨C, hm, Mk'.kp, ?_⟩
  rintro X rfl hc pins s σ H Q us ws vs zs I r rz hl hz h
  refine run_makeK (vs := vs) (zs := zs) Mk' F hr hb pass0 I r rz hl hz fun p dx hp hdx hne => ?_
  obtain ⟨ds, M, F', Q0, rd, m, fr, h, go⟩ := h
  have n1 : upd H dx (.own p) p = none := by rw [upd_ne (Ne.symm hne)]; exact hp
  have t1 : TupS X.K H (upd H dx (.own p)) := .new hdx
  have t2 : TupS X.K (upd H dx (.own p)) (upd (upd H dx (.own p)) p (.ins C dx [])) := .new n1
  have m2 : RepM X.K (upd (upd H dx (.own p)) p (.ins C dx [])) (up M p (.ins C [])) := (m.more hdx).new n1 ⟨dx, [], upd_same, by unfold Pairs; rfl⟩
  have f1 : Frm F' H (upd H dx (.own p)) M := fr.more hdx
  have f2 := (fr.next f1).new (u := .ins C dx []) n1 (.ins C [])
  refine ⟨gD (.ref p :: ds), up M p (.ins C []), F', _, ((hg H ds vs zs hl hz rd p).stay t1).stay t2, m2, (fr.next f1).next f2, h p (m.none hp), fun d M' v H' q t f r' p' => ?_⟩
  obtain ⟨rfl, q⟩ := q
  exact ⟨p', go _ M' _ H' q ((t1.trans t2).trans t) ((f1.trans f2).trans f) r' rfl⟩
end
end DL
namespace DL
open PySem PySem.Calls PySem.NumText PyProof.Rows
theorem wp_most {M : Model} {A : Around} {E : Value → Shared → Prop} {s : Shared} {Q : Nat → Shared → Prop} (hd : s.heap.NoDigits) (h : Q 4300 s) : wpAny M A Builtin.intMaxStrDigits Q E s := by
  obtain ⟨mc, hns, hnone⟩ := hd
  unfold Builtin.intMaxStrDigits
  refine wpAny_bind (wpAny_nsGet hns ?_)
  rw [hnone]
  exact wpAny_pure h
theorem wp_textL {M : Model} {A : Around} {E : Value → Shared → Prop} {s : Shared} {Q : Value → Shared → Prop} {v : Value} {text : List Nat} {n : Int} (hd : s.heap.NoDigits)
    (hs : ¬ (text.takeWhile (· != 0)).length ≤ 640) (hr : (int_private% "readNumeral") 4300 10 (text.takeWhile (· != 0)) = (int_private% "Numeral.value") n)
    (ha : ((text.takeWhile (· != 0)).length == text.length) = true) (h : Q (.int n s.toks) { s with toks := s.toks + 1 }) :
    wpAny M A ((int_private% "intFromText") v text 10) Q E s := by
  obtain ⟨hp, g, d, tk, os⟩ := s
  repeat (any_goals (first
    | assumption
    | (with_reducible refine wpAny_ite_false (decide_eq_false hs) ?_)
    | (with_reducible refine wpAny_ite_true (decide_eq_true ha) ?_)
    | (with_reducible refine wp_most hd ?_)
    | wp_step))
  all_goals (try rw [hr])
  all_goals (try dsimp only)
  repeat (any_goals (first
    | assumption
    | (with_reducible refine wpAny_ite_true (decide_eq_true ha) ?_)
    | wp_step))
def bigT : PySem.Str := ("1" : PySem.Str) ++ Txt.mul "0" 900
theorem rep_signs : ∀ (n : Nat) (acc : Array Nat), ((List.replicate n (#[48] : Array Nat)).foldl (· ++ ·) acc).toList = acc.toList ++ List.replicate n 48
  | 0, acc => by simp
  | n + 1, acc => by
    rw [List.replicate_succ, List.foldl_cons, rep_signs n]
    simp [List.replicate_succ]
theorem bigT_signs : bigT.cps.toList = 49 :: List.replicate 900 48 := by
  have e : bigT.cps = ("1" : PySem.Str).cps ++ (Txt.mul "0" 900).cps := rfl
  have e2 : (Txt.mul "0" 900).cps = (List.replicate 900 (#[48] : Array Nat)).foldl (· ++ ·) #[] := by
    unfold Txt.mul
    rw [if_neg (by decide), if_neg (by decide)]
    rfl
  rw [e, Array.toList_append, e2, rep_signs]
  rfl
theorem big_dig : AllDigits bigT.cps.toList := by
  rw [bigT_signs]
  intro c hc
  rcases List.mem_cons.mp hc with rfl | hc
  · decide
  · rw [(List.mem_replicate.mp hc).2]; decide
theorem bigT_len : bigT.length = 901 := by
  have e : bigT.length = bigT.cps.toList.length := Array.length_toList.symm
  rw [e, bigT_signs, List.length_cons, List.length_replicate]
theorem val_rep : ∀ (n acc : Nat), (List.replicate n 48).foldl (fun acc c => acc * 10 + (c - 48)) acc = acc * 10 ^ n
  | 0, acc => by simp
  | n + 1, acc => by
    rw [List.replicate_succ, List.foldl_cons, val_rep n, Nat.pow_succ]
    show (acc * 10 + 0) * 10 ^ n = _
    rw [Nat.add_zero, Nat.mul_assoc, Nat.mul_comm 10]
theorem big_val : intText? bigT = some potTop := by
  rw [intText_digits big_dig (by rw [bigT_signs]; exact List.cons_ne_nil _ _) (by rw [bigT_len]; decide), bigT_signs]
  have e : digitsVal (49 :: List.replicate 900 48) = 10 ^ 900 := by
    unfold digitsVal
    rw [List.foldl_cons, val_rep]
    show (0 * 10 + 1) * 10 ^ 900 = _
    rw [Nat.zero_mul, Nat.zero_add, Nat.one_mul]
  rw [e]
  unfold potTop
  rw [Int.natCast_pow]
  rfl
theorem big_both : numTextOf bigT = bigT.cps.toList ∧ numSeenOf bigT = bigT.cps.toList := numText_signs fun c hc => .inr (big_dig c hc)
theorem big_seen : ¬ (numSeenOf bigT).length ≤ 640 := by
  rw [big_both.2, bigT_signs, List.length_cons, List.length_replicate]; decide
theorem big_read : (int_private% "readNumeral") 4300 10 (numSeenOf bigT) = (int_private% "Numeral.value") potTop ∧ ((numSeenOf bigT).length == (numTextOf bigT).length) = true := by
  rcases read4300 bigT (by rw [bigT_len, sizeLine_eq]; decide) with ⟨n, h1, h2, h3⟩ | h
  · rw [big_val] at h1
    injection h1 with h1
    rw [h1]
    exact ⟨h3, h2⟩
  · rw [big_val] at h
    simp at h
theorem meets_big {u : Tok} : Meets (Builtin.«int.__new__» ⟨[.type "int", .str bigT u], []⟩) (fun _ R s => s.heap.NoDigits ∧ R (.ok (.ret (.int potTop s.toks))) { s with toks := s.toks + 1 }) :=
  Meets.of_wp fun prog w A R s h => by
    obtain ⟨hp, g, d, tk, os⟩ := s
    obtain ⟨hd, h⟩ := h
    have hd : Shared.heap ⟨hp, g, d, tk, os⟩ |>.NoDigits := hd
    have f1 := F.conv_sub_int
    have f2 := F.madeHere_int
    have f3 := PySem.W.KIN.str_int
    have f4 := PySem.W.KIN.str_idx
    have f5 := PySem.W.KIN.str_trunc
    have hk := PySem.W.KIN.Hid.mk (And.intro big_seen big_read)
    generalize potTop = pt at hk h ⊢
    generalize bigT = x at hk ⊢
    have f6 : typeOf (.str x u) = pure (.type "str") := rfl
    repeat (any_goals (first
      | assumption
      | ((with_reducible show wpAny _ _ ((int_private% "intFromText") _ _ _) _ _ _); refine wp_textL hd hk.out.1 hk.out.2.1 hk.out.2.2 ?_)
      | wp_step))
    all_goals first | exact ⟨_, rfl, h⟩ | exact h | skip
open L2 in
theorem cd_big {X : Cx} (hd : X.base.NoDigits) : CallR X (.type "int") (fun xs H Q => xs = [.str bigT] ∧ Q (.int potTop) H) := by
  intro pins s σ H xs us Q I rs h
  obtain ⟨rfl, h⟩ := h
  cases rs with
  | cons r1 rs =>
    cases rs
    obtain ⟨t, rfl⟩ := r1
    exact call_int_1 meets_big ⟨hd.keeps I.bk, rfl, ⟨.int potTop, H, I.tok _, ⟨_, rfl⟩, h⟩⟩
end DL
namespace DL
open PySem PySem.Spec PyProof.Rows L2
section
open PySem.W
variable {prog : Program} {w : World} {A : Around} {E : Value → Shared → Prop} {s : Shared} {K : Frag} {x f C L : Addr} {h₀ : Heap} {m : Str → Option Value} {ox : Obj} {od : Option Obj} {b tb : Value}
end
end DL
namespace DL
open PySem PySem.Spec PyProof.Rows L2
section
variable {X : Cx} {k : Nat} {f C : Addr} {fd : FuncData} {ps : List Str} {S : Spec}
theorem run_at {A : Around} {pins : List (Addr × Obj)} {σ : L2.St} {H : Hp} {s : Shared} {Q : VK} {us : List Value} {vs : List V} (F : FnOk X.prog X.w X.K X.mg X.base CX0 k f fd ps (spD X.K S)) (hr : Room k A) (hf : A.frames = X.A.frames) (hb : Binds X.K fd ps [])
    (I : Inv X pins σ H s) (r : Vals vs us) (h : rDL X.K S vs H Q) : wpAny (model X.prog X.w) A (call (.ref f) us) (EP X pins σ Q) X.xe s := by
  have e0 : Env0 X.prog X.w X.K X.mg X.base A X.stack s H := by
    have e := I.env0
    exact ⟨by rw [hf]; exact e.frames, e.mod, e.bs, e.bsz, e.funs, e.frf, e.hok, e.bare⟩
  have hl : us.length = ps.length := by rw [← r.length]; exact F.len _ _ _ (fun _ _ _ => False) h
  have hb' := hb s us I.kIn (by rw [List.append_nil]; exact hl)
  rw [List.append_nil] at hb'
  refine wpAny_call (codeAny_mono (F.run A X.stack s H ⟨us, []⟩ us vs Q (fun _ _ _ => False) hr e0 hb' r h) fun r s' hq => ?_)
  cases r with
  | error e => exact pass0 pins σ H s e s' I hq
  | ok fl =>
    cases fl with
    | ret u => exact I.after hq
    | next => exact False.elim hq
    | brk => exact False.elim hq
    | cont => exact False.elim hq
structure OwnM (k : Co) (C : Addr) (m : Str) (S : Spec) : Prop where
  ex : ∃ (n : Nat) (f : Addr) (fd : FuncData) (ps : List Str), FnOk k.prog k.w k.K k.mg k.base CX0 n f fd ps (spD k.K S) ∧ Room (n + 1) k.A ∧ Binds k.K fd ps [] ∧ PySem.W.findIn k.K (.ref C) m = some (some (.ref f)) ∧ PySem.W.isFn k.K (.ref f) = true
structure NeM (k : Co) (C : Addr) : Prop where
  ne : PySem.W.findIn k.K (.ref C) "__ne__" = some (some (.builtin "object.__ne__"))
  ob : PySem.W.subIn k.K (.ref C) (.type "object") = some true
def lenOS (C : Addr) (S : Spec) : Spec := fun ds M Q => ∃ a fs, ds = [.ref a] ∧ M a = some (.ins C fs) ∧ S [.ref a] M fun d M' => ∃ n : Int, d = .int n ∧ 0 ≤ n ∧ n < 2 ^ 63 ∧ Q (.int n) M'
theorem cd_lenO (o : OwnM (co X) C "__len__" S) : CallR X (.builtin "len") (rDL X.K (lenOS C S)) := fun pins s σ H xs us Q I rv h => by
  obtain ⟨n, f, fd, ps, F, hr, hb, hs, hf⟩ := o.ex
  obtain ⟨ds, M, F', Q0, r1, m, fr, ⟨a, fs, rfl, ha, h⟩, g⟩ := h
  obtain ⟨v, rfl, rr⟩ := r1.one
  cases rr
  obtain ⟨u, rfl, ru⟩ := vals1 rv
  obtain rfl : u = Value.ref a := ru
  obtain ⟨d1, vs, e1, _⟩ := m _ _ ha
  obtain ⟨mA, J, _⟩ := ins_get I.hok e1
  obtain ⟨od, J, _⟩ := J.look
  obtain ⟨m1, hF⟩ := I.fr
  refine PySem.W.len_K hF I.ok.mod.kin J hs hf ?_
  refine wpAny_mono (run_at F hr.in1 rfl hb I (vs := [.ref a]) (Q := fun v H' => ∃ n : Int, v = .int n ∧ 0 ≤ n ∧ n < 2 ^ 63 ∧ Q (.int n) H') (.cons rfl .nil) ⟨[.ref a], M, F', _, .cons rfl .nil, m, fr, h, fun d M' v H' q t f r p => ?_⟩) (fun v s' q => ?_) fun _ _ z => z
  · obtain ⟨tt, rfl, h0, h1, q⟩ := q
    cases p
    exact ⟨tt, rfl, h0, h1, g _ M' _ H' q t f r rfl⟩
  · obtain ⟨v, H', I', rv, tt, rfl, h0, h1, q⟩ := q
    obtain ⟨t, rfl⟩ := rv
    exact ⟨⟨h0, h1⟩, ⟨.int tt, H', I'.tok _, ⟨_, rfl⟩, q⟩⟩
mutual
theorem nodict : ∀ d : D, (py d).hasDict = false
  | .non => by unfold py PyData.hasDict; rfl
  | .bl _ => by unfold py PyData.hasDict; rfl
  | .int _ => by unfold py PyData.hasDict; rfl
  | .str _ => by unfold py PyData.hasDict; rfl
  | .ty _ => by unfold py PyData.hasDict; rfl
  | .ref _ => by unfold py PyData.hasDict; rfl
  | .tup ds => by unfold py PyData.hasDict; exact nodicts ds
theorem nodicts : ∀ ds : List D, PyData.hasDictAll (pys ds) = false
  | [] => by unfold pys PyData.hasDictAll; rfl
  | d :: ds => by unfold pys PyData.hasDictAll; rw [nodict d, nodicts ds]; rfl
end
def objD : D → Bool
  | .tup _ => true
  | .ref _ => true
  | _ => false
mutual
theorem Dat.nodict {M : Mp} : ∀ {d : D} {p : PyData}, Dat M d p → p.hasDict = false
  | _, _, .non => by unfold PyData.hasDict; rfl
  | _, _, .bl _ => by unfold PyData.hasDict; rfl
  | _, _, .int _ => by unfold PyData.hasDict; rfl
  | _, _, .str _ => by unfold PyData.hasDict; rfl
  | _, _, .tup h => by unfold PyData.hasDict; exact Dats.nodict h
  | _, _, .lst _ h => by unfold PyData.hasDict; exact Dats.nodict h
theorem Dats.nodict {M : Mp} : ∀ {ds : List D} {ps : List PyData}, Dats M ds ps → PyData.hasDictAll ps = false
  | _, _, .nil => by unfold PyData.hasDictAll; rfl
  | _, _, .cons h t => by unfold PyData.hasDictAll; rw [Dat.nodict h, Dats.nodict t]; rfl
end
mutual
inductive DatK (M : Mp) : D → PyData → Prop
  | non : DatK M .non .none
  | bl (b : Bool) : DatK M (.bl b) (.bool b)
  | int (i : Int) : DatK M (.int i) (.int i)
  | str (x : Str) : DatK M (.str x) (.str x)
  | tup {ds : List D} {ps : List PyData} : DatsK M ds ps → DatK M (.tup ds) (.tuple ps)
  | dk {a : Addr} : M a = some (.dK []) → DatK M (.ref a) (.dict [])
  | lst {a : Addr} {ds : List D} {ps : List PyData} : M a = some (.lst ds) → DatsK M ds ps → DatK M (.ref a) (.list ps)
inductive DatsK (M : Mp) : List D → List PyData → Prop
  | nil : DatsK M [] []
  | cons {d : D} {p : PyData} {ds : List D} {ps : List PyData} : DatK M d p → DatsK M ds ps → DatsK M (d :: ds) (p :: ps)
end
section
variable {pins : List (Addr × Obj)} {σ : L2.St} {H : Hp} {s : Shared} {M : Mp}
mutual
theorem DatK.reads (I : Inv X pins σ H s) (m : RepM X.K H M) : ∀ {d : D} {p : PyData} {v : V} {u : Value}, DatK M d p → Rep X.K H d v → RelV v u → p.showable = true → p.shown.length ≤ sizeLine → ∃ as bs, Reads s.heap u p as ∧ ReadAtMost s.heap p.depth bs ∧ ReprK X.prog X.w bs s.heap p.depth u p.shown
  | _, _, _, _, .non, r, q, _, _ => by cases r; cases q; exact ⟨_, [], Reads.none, (fun _ h => nomatch h), by simp only [PyData.shown]; exact .of_is ReprIs.none _ _ _⟩
  | _, _, _, _, .bl b, r, q, _, _ => by cases r; cases q; exact ⟨_, [], Reads.bool b, (fun _ h => nomatch h), by simp only [PyData.shown]; exact .of_is (ReprIs.bool b) _ _ _⟩
  | _, _, _, _, .int i, r, q, hs, _ => by cases r; obtain ⟨t, rfl⟩ := q; exact ⟨_, [], Reads.int i t, (fun _ h => nomatch h), by simp only [PyData.shown]; exact .of_is (ReprIs.int t (by simpa [PyData.showable] using hs)) _ _ _⟩
  | _, _, _, _, .str x, r, q, _, hz => by cases r; obtain ⟨t, rfl⟩ := q; exact ⟨_, [], Reads.str x t, (fun _ h => nomatch h), by simp only [PyData.shown]; exact .of_is (ReprIs.str x t (by simpa only [PyData.shown] using hz)) _ _ _⟩
  | _, _, _, _, .tup (ps := xs) h, r, q, hs, hz => by
    unfold Rep at r
    obtain ⟨a, vs, rfl, sq, r⟩ := r
    cases q
    obtain ⟨its, rv, ⟨o, ho, hc, n, hd⟩, _⟩ := I.tuple sq
    have hz' : (tupleText (PyData.shownAll xs)).length ≤ sizeLine := by simpa only [PyData.shown] using hz
    obtain ⟨as, bs, hr, hb, hk⟩ := DatsK.reads I m h r rv (by simpa [PyData.showable] using hs) (fun t ht => Nat.le_trans (tupleText_mem_le ht) hz')
    have rd : Reads s.heap (.ref a) (.tuple xs) _ := .tuple ho hc hd hr
    have hna : a ∉ bs := not_mem_of_deeper rd (by simp only [PyData.depth]; omega) hb
    refine ⟨_, a :: bs, rd, ReadAtMost.cons rd (by simp only [PyData.depth]; omega) hb, ?_⟩
    simp only [PyData.depth, PyData.shown]
    exact ReprK.tuple ho hc hd hna hk
  | _, _, _, _, .lst (ps := xs) e h, r, q, hs, hz => by
    cases r
    cases q
    obtain ⟨vs, e1, r⟩ := m _ _ e
    obtain ⟨its, rv, ⟨o, n, ho, hc, _, hd⟩, _⟩ := I.list (.of e1)
    have hz' : (listText (PyData.shownAll xs)).length ≤ sizeLine := by simpa only [PyData.shown] using hz
    obtain ⟨as, bs, hr, hb, hk⟩ := DatsK.reads I m h r rv (by simpa [PyData.showable] using hs) (fun t ht => Nat.le_trans (listText_mem_le ht) hz')
    have rd : Reads s.heap (.ref _) (.list xs) _ := .list ho hc hd hr
    have hna : _ ∉ bs := not_mem_of_deeper rd (by simp only [PyData.depth]; omega) hb
    refine ⟨_, _ :: bs, rd, ReadAtMost.cons rd (by simp only [PyData.depth]; omega) hb, ?_⟩
    simp only [PyData.depth, PyData.shown]
    cases its with
    | nil =>
      cases hr
      simp only [PyData.shownAll, listText_nil]
      exact ReprK.listEmpty ho hc hd
    | cons x l => exact ReprK.list ho hc hd hna (by simpa using hk.length_eq) (fun i y e => hk.item i y (by simpa using e))
  | _, _, _, _, .dk e, r, q, _, _ => by
    cases r
    cases q
    obtain ⟨vs, e1, ps⟩ := m _ _ e
    obtain ⟨_, lo, ws, rel, o, es, ep, ho, hx, hd, hk, hp, _⟩ := dk_rd I.hok (.inl e1)
    have hvs : vs = [] := by cases ps; rfl
    subst hvs
    have hws : ws = [] := by cases rel; rfl
    subst hws
    have hes : es.toList = [] := by
      generalize es.toList = l at hp
      cases hp
      rfl
    have rd : Reads s.heap (.ref _) (.dict []) _ := Reads.dict (as := []) (bs := []) ho hx.1 hd (by rw [hes]; exact .nil) (by rw [hes]; exact .nil)
    obtain ⟨bs, hb, hk⟩ := ReprK.of_reads (prog := X.prog) (w := X.w) rd (by decide +kernel) (fun _ z => by
      simp only [List.append_nil, List.mem_singleton] at z
      rw [← z] at lo
      simp at lo) (by decide +kernel)
    exact ⟨_, bs, rd, hb, hk⟩
theorem DatsK.reads (I : Inv X pins σ H s) (m : RepM X.K H M) : ∀ {ds : List D} {ps : List PyData} {vs : List V} {us : List Value}, DatsK M ds ps → Reps X.K H ds vs → Vals vs us → PyData.showableAll ps = true → (∀ t ∈ PyData.shownAll ps, t.length ≤ sizeLine) → ∃ as bs, ReadsAll s.heap us ps as ∧ ReadAtMost s.heap (PyData.depthAll ps) bs ∧ ReprAllK X.prog X.w bs s.heap (PyData.depthAll ps) us (PyData.shownAll ps)
  | _, _, _, _, .nil, r, q, _, _ => by
    unfold Reps at r
    subst r
    cases q
    exact ⟨_, [], ReadsAll.nil, (fun _ h => nomatch h), by simp only [PyData.shownAll]; exact .nil⟩
  | _, _, _, _, .cons (p := p) (ps := ps) h t, r, q, hs, hz => by
    unfold Reps at r
    obtain ⟨v, vs, rfl, r1, r2⟩ := r
    cases q with
    | cons q1 q2 =>
      have hs' : p.showable = true ∧ PyData.showableAll ps = true := by simpa [PyData.showableAll] using hs
      obtain ⟨as, b1, a1, hb1, k1⟩ := DatK.reads I m h r1 q1 hs'.1 (hz _ (by simp only [PyData.shownAll]; exact List.mem_cons_self ..))
      obtain ⟨bs, b2, a2, hb2, k2⟩ := DatsK.reads I m t r2 q2 hs'.2 (fun t ht => hz t (by simp only [PyData.shownAll]; exact List.mem_cons_of_mem _ ht))
      refine ⟨_, b1 ++ b2, ReadsAll.cons a1 a2, ?_, ?_⟩
      · intro b hm
        simp only [PyData.depthAll]
        rcases List.mem_append.mp hm with hm | hm
        · obtain ⟨d', as', r', hd'⟩ := hb1 b hm
          exact ⟨d', as', r', Nat.le_trans hd' (Nat.le_max_left _ _)⟩
        · obtain ⟨d', as', r', hd'⟩ := hb2 b hm
          exact ⟨d', as', r', Nat.le_trans hd' (Nat.le_max_right _ _)⟩
      · simp only [PyData.depthAll, PyData.shownAll]
        exact .cons ((k1.more fun b hb => List.mem_append_left _ hb).level_le (Nat.le_max_left _ _)) (k2.more_le (fun b hb => List.mem_append_right _ hb) (Nat.le_max_right _ _))
end
end
def reprS0 : Spec := fun ds M Q => ∃ xs, ds = [.tup xs] ∧ plains xs = true ∧ (py (.tup xs)).showable = true ∧ (py (.tup xs)).depth ≤ 60 ∧ (py (.tup xs)).shown.length ≤ sizeLine ∧ Q (.str (py (.tup xs)).shown) M
def boolT (b : Bool) : Str := if b then "True" else "False"
def reprS : Spec := fun ds M Q => reprS0 ds M Q ∨ (∃ b : Bool, ds = [.bl b] ∧ Q (.str (boolT b)) M) ∨ (ds = [.non] ∧ Q (.str "None") M) ∨ (∃ i : Int, ds = [.int i] ∧ i.natAbs.log2 < 1920 ∧ Q (.str (toString i)) M) ∨
  (∃ x p, ds = [x] ∧ objD x = true ∧ Dat M x p ∧ p.showable = true ∧ p.depth ≤ 60 ∧ p.shown.length ≤ sizeLine ∧ Q (.str p.shown) M) ∨ (∃ z : Str, ds = [.str z] ∧ (reprText z).length ≤ sizeLine ∧ Q (.str (reprText z)) M) ∨ (∃ a, ds = [.ref a] ∧ M a = some (.dK []) ∧ Q (.str (PyData.dict []).shown) M) ∨
  (∃ x p, ds = [x] ∧ objD x = true ∧ DatK M x p ∧ p.showable = true ∧ p.depth ≤ 60 ∧ p.shown.length ≤ sizeLine ∧ Q (.str p.shown) M)
theorem cd_repr0 (hg : X.A.guards = some []) (hu : Ru X) : CallR X (.builtin "repr") (rDL X.K reprS0) := fun pins s σ H xs us Q I rv h => by
  obtain ⟨ds, M, F', Q0, r1, m, fr, ⟨xs, rfl, hp, hs, hd, hz, q⟩, g⟩ := h
  obtain ⟨v, rfl, rr⟩ := r1.one
  have rr' := rr
  unfold Rep at rr
  obtain ⟨a, ws, rfl, _, _⟩ := rr
  obtain ⟨u, rfl, ru⟩ := vals1 rv
  obtain ⟨as, e1⟩ := Dp.reads I (py (.tup xs)) _ u ((Dat.plain (M := M) (d := .tup xs) (by unfold plain; exact hp)).dp m rr') ru
  obtain rfl : u = Value.ref a := ru
  refine repr_of_reads' e1 hs (fun z => by rw [nodict] at z; cases z) hg (by have := hu; omega) (fun _ _ e => e) (fun h' u tk kp => ?_) hz
  exact ⟨.str _, H, I.kept kp, ⟨_, rfl⟩, g _ M _ H q (.refl _) fr.frm m rfl⟩
theorem cd_reprG (hg : X.A.guards = some []) (hu : Ru X) : CallR X (.builtin "repr") (rDL X.K fun ds M Q => ∃ x p, ds = [x] ∧ objD x = true ∧ Dat M x p ∧ p.showable = true ∧ p.depth ≤ 60 ∧ p.shown.length ≤ sizeLine ∧ Q (.str p.shown) M) := fun pins s σ H xs us Q I rv h => by
  obtain ⟨ds, M, F', Q0, r1, m, fr, ⟨x, p, rfl, ho, hp, hs, hd, hz, q⟩, g⟩ := h
  obtain ⟨v, rfl, rr⟩ := r1.one
  obtain ⟨u, rfl, ru⟩ := vals1 rv
  obtain ⟨as, e1⟩ := Dp.reads I p _ u (hp.dp m rr) ru
  obtain ⟨a, rfl⟩ : ∃ a, u = Value.ref a := by
    cases x with
    | tup xs => unfold Rep at rr; obtain ⟨a, ws, rfl, _, _⟩ := rr; exact ⟨a, ru⟩
    | ref a => cases rr; exact ⟨a, ru⟩
    | _ => cases ho
  refine repr_of_reads' e1 hs (fun z => by rw [hp.nodict] at z; cases z) hg (by have := hu; omega) (fun _ _ e => e) (fun h' u tk kp => ?_) hz
  exact ⟨.str _, H, I.kept kp, ⟨_, rfl⟩, g _ M _ H q (.refl _) fr.frm m rfl⟩
theorem cd_reprD (hg : X.A.guards = some []) (hu : Ru X) : CallR X (.builtin "repr") (rDL X.K fun ds M Q => ∃ a, ds = [.ref a] ∧ M a = some (.dK []) ∧ Q (.str (PyData.dict []).shown) M) := fun pins s σ H xs us Q I rv h => by
  obtain ⟨ds, M, F', Q0, r1, m, fr, ⟨a, rfl, e, q⟩, g⟩ := h
  obtain ⟨v, rfl, rr⟩ := r1.one
  obtain ⟨u, rfl, ru⟩ := vals1 rv
  cases rr
  obtain rfl : u = Value.ref a := ru
  obtain ⟨vs, e1, ps⟩ := m _ _ e
  obtain ⟨_, lo, ws, rel, o, es, ep, ho, hx, hd, hk, hp, _⟩ := dk_rd I.hok (.inl e1)
  have hvs : vs = [] := by cases ps; rfl
  subst hvs
  have hws : ws = [] := by cases rel; rfl
  subst hws
  have hes : es.toList = [] := by
    generalize es.toList = l at hp
    cases hp
    rfl
  have rd : Reads s.heap (.ref a) (.dict []) [a] := Reads.dict (as := []) (bs := []) ho hx.1 hd (by rw [hes]; exact .nil) (by rw [hes]; exact .nil)
  have hdep : (PyData.dict []).depth ≤ 1 := by decide +kernel
  refine repr_of_reads' rd (by decide +kernel) (fun _ z => by
    rw [List.mem_singleton] at z
    subst z
    simp at lo) hg (Nat.lt_of_le_of_lt (Nat.add_le_add_left (Nat.succ_le_succ hdep) _) (by have := hu; omega)) (fun _ _ e => e) (fun h' u tk kp => ?_) (by decide +kernel)
  exact ⟨.str _, H, I.kept kp, ⟨_, rfl⟩, g _ M _ H q (.refl _) fr.frm m rfl⟩
theorem cd_reprK (hg : X.A.guards = some []) (hu : Ru X) : CallR X (.builtin "repr") (rDL X.K fun ds M Q => ∃ x p, ds = [x] ∧ objD x = true ∧ DatK M x p ∧ p.showable = true ∧ p.depth ≤ 60 ∧ p.shown.length ≤ sizeLine ∧ Q (.str p.shown) M) := fun pins s σ H xs us Q I rv h => by
  obtain ⟨ds, M, F', Q0, r1, m, fr, ⟨x, p, rfl, ho, hp, hs, hd, hz, q⟩, g⟩ := h
  cases hp with
  | dk e => exact cd_reprD hg hu pins s σ H xs us Q I rv ⟨_, M, F', Q0, r1, m, fr, ⟨_, rfl, e, q⟩, g⟩
  | lst e h =>
    rename_i a ys xs
    obtain ⟨v, rfl, rr⟩ := r1.one
    obtain ⟨u, rfl, ru⟩ := vals1 rv
    cases rr
    obtain rfl : u = Value.ref a := ru
    obtain ⟨vs, e1, r⟩ := m _ _ e
    obtain ⟨its, rv, ⟨o, n, ho, hc, _, hd'⟩, _⟩ := I.list (.of e1)
    have hz' : (listText (PyData.shownAll xs)).length ≤ sizeLine := by simpa only [PyData.shown] using hz
    obtain ⟨as, bs, hr, hb, hk⟩ := DatsK.reads I m h r rv (by simpa [PyData.showable] using hs) (fun t ht => Nat.le_trans (listText_mem_le ht) hz')
    have rd : Reads s.heap (.ref a) (.list xs) _ := .list ho hc hd' hr
    have hna : a ∉ bs := not_mem_of_deeper rd (by simp only [PyData.depth]; omega) hb
    simp only [PyData.depth] at hd
    have q' : Q0 (.str (listText (PyData.shownAll xs))) M := by simpa only [PyData.shown] using q
    cases its with
    | nil =>
      cases hr
      have q2 : Q0 (.str "[]") M := by simp only [PyData.shownAll, listText_nil] at q'; exact q'
      exact call_repr_slot (by have := hu; omega) ⟨o, ho, hc⟩ PySem.F.slot_list_repr.toG (call_list_repr_empty ⟨o, ho, hc⟩ ho hd' ⟨_, _, rfl, .str _, H, I.kept (fun _ _ e => e), ⟨_, rfl⟩, g _ M _ H q2 (.refl _) fr.frm m rfl⟩)
    | cons y l =>
      refine call_repr_slot (by have := hu; omega) ⟨o, ho, hc⟩ PySem.F.slot_list_repr.toG (call_list_reprK ho hc hd' hna (by simpa using hk.length_eq) (fun i y e => hk.item i y (by simpa using e)) hg (fun b _ => Clear.nil b) (by show X.A.units + 1 + _ < cLine; have := hu; omega) (fun _ _ e => e) (fun h' u tk kp => ?_) hz')
      exact ⟨_, _, rfl, .str _, H, I.kept kp, ⟨_, rfl⟩, g _ M _ H q' (.refl _) fr.frm m rfl⟩
  | tup h =>
    rename_i ys xs
    obtain ⟨v, rfl, rr⟩ := r1.one
    obtain ⟨u, rfl, ru⟩ := vals1 rv
    unfold Rep at rr
    obtain ⟨a, ws, rfl, sq, r⟩ := rr
    obtain rfl : u = Value.ref a := ru
    obtain ⟨its, rv, ⟨o, ho, hc, n, hd'⟩, _⟩ := I.tuple sq
    have hz' : (tupleText (PyData.shownAll xs)).length ≤ sizeLine := by simpa only [PyData.shown] using hz
    obtain ⟨as, bs, hr, hb, hk⟩ := DatsK.reads I m h r rv (by simpa [PyData.showable] using hs) (fun t ht => Nat.le_trans (tupleText_mem_le ht) hz')
    have rd : Reads s.heap (.ref a) (.tuple xs) _ := .tuple ho hc hd' hr
    have hna : a ∉ bs := not_mem_of_deeper rd (by simp only [PyData.depth]; omega) hb
    simp only [PyData.depth] at hd
    refine call_repr_slot (by have := hu; omega) ⟨o, ho, hc⟩ PySem.F.slot_tuple_repr (call_tuple_reprK ho hc hd' hna hk hg (fun b _ => Clear.nil b) (by show X.A.units + 1 + _ < cLine; have := hu; omega) (fun _ _ e => e) (fun h' u tk kp => ?_) hz')
    have q' : Q0 (.str (tupleText (PyData.shownAll xs))) M := by simpa only [PyData.shown] using q
    exact ⟨_, _, rfl, .str _, H, I.kept kp, ⟨_, rfl⟩, g _ M _ H q' (.refl _) fr.frm m rfl⟩
  | _ => cases ho
theorem cd_repr (hg : X.A.guards = some []) (hu : Ru X) : CallR X (.builtin "repr") (rDL X.K reprS) := fun pins s σ H xs us Q I rv h => by
  obtain ⟨ds, M, F', Q0, r1, m, fr, h | ⟨b, rfl, q⟩ | ⟨rfl, q⟩ | ⟨i, rfl, hi, q⟩ | h | ⟨z, rfl, hz, q⟩ | h | h, g⟩ := h
  · exact cd_repr0 hg hu pins s σ H xs us Q I rv ⟨ds, M, F', Q0, r1, m, fr, h, g⟩
  · obtain ⟨v, rfl, rr⟩ := r1.one
    cases rr
    obtain ⟨u, rfl, ru⟩ := vals1 rv
    obtain rfl : u = Value.bool b := ru
    exact P.repr_of_bool ⟨.str (boolT b), H, I.tok _, ⟨_, by unfold boolT; cases b <;> rfl⟩, g _ M _ H q (.refl _) fr.frm m rfl⟩
  · obtain ⟨v, rfl, rr⟩ := r1.one
    cases rr
    obtain ⟨u, rfl, ru⟩ := vals1 rv
    obtain rfl : u = Value.none := ru
    exact P.repr_of_none ⟨.str "None", H, I.tok _, ⟨_, rfl⟩, g _ M _ H q (.refl _) fr.frm m rfl⟩
  · obtain ⟨v, rfl, rr⟩ := r1.one
    cases rr
    obtain ⟨u, rfl, ru⟩ := vals1 rv
    obtain ⟨t, rfl⟩ : ∃ t, u = Value.int i t := ru
    exact P.repr_of_int hi ⟨.str (toString i), H, I.tok _, ⟨_, rfl⟩, g _ M _ H q (.refl _) fr.frm m rfl⟩
  · exact cd_reprG hg hu pins s σ H xs us Q I rv ⟨ds, M, F', Q0, r1, m, fr, h, g⟩
  · obtain ⟨v, rfl, rr⟩ := r1.one
    cases rr
    obtain ⟨u, rfl, ru⟩ := vals1 rv
    obtain ⟨t, rfl⟩ : ∃ t, u = Value.str z t := ru
    exact P.repr_of_str ⟨.str (reprText z), H, I.tok _, ⟨_, rfl⟩, g _ M _ H q (.refl _) fr.frm m rfl⟩ hz
  · exact cd_reprD hg hu pins s σ H xs us Q I rv ⟨ds, M, F', Q0, r1, m, fr, h, g⟩
  · exact cd_reprK hg hu pins s σ H xs us Q I rv ⟨ds, M, F', Q0, r1, m, fr, h, g⟩
theorem op_mul_str : OpR X (binaryOp .Mult) (fun x y H Q => x = .str "0" ∧ y = .int 900 ∧ Q (.str (Txt.mul "0" 900)) H) := fun pins s σ H x y v u Q I rx ry h => by
  obtain ⟨rfl, rfl, h⟩ := h
  obtain ⟨t, rfl⟩ := rx
  obtain ⟨t2, rfl⟩ := ry
  exact SB.mul ⟨by decide, by decide, by decide +kernel⟩ fun t' k => ⟨.str _, H, I.tok k, ⟨_, rfl⟩, h⟩
theorem bigL : (Txt.mul "0" 900).length = 900 := by
  have h := bigT_len
  have e : bigT.length = ("1" : PySem.Str).length + (Txt.mul "0" 900).length := strLen_append _ _
  rw [e] at h
  have e1 : ("1" : PySem.Str).length = 1 := by decide
  omega
end
end DL
namespace DL
open PySem PySem.Spec PyProof.Rows L2
section
variable {X : Cx}
def PutR (X : Cx) (Pt : Addr → V → V → Hp → Hp → Prop) : Prop := ∀ (Y : Cx), Y.prog = X.prog → Y.w = X.w → Y.K = X.K → Y.A = X.A → ∀ (pins : List (Addr × Obj)) (σ : L2.St) (H H' : Hp) (s : Shared) (D : Addr) (y z : V) (u r : Value) (E : Value → Shared → Prop) (Q : Unit → Shared → Prop),
  Inv Y pins σ H s → Pt D y z H H' → RelV y u → RelV z r → (∀ s', Inv Y pins σ H' s' → Q () s') → wpAny (model Y.prog Y.w) Y.A (dictSet D u r) Q E s
def tDcx (u0 : Addr → HO) (Pt : Addr → V → V → Hp → Hp → Prop) (wi : TI) (g : TG) (tt : TT) (tk tv : TE) (vs : List Nat) : TE := fun σ H Q => wi σ H fun J H1 => ∀ D, H1 D = none → ∃ W : Nat → Nat → Hp → Prop, (∃ m, W 0 m (upd H1 D (u0 D))) ∧ ∀ i m H, W i m H →
  (J.stop i H ∧ Q (.ref D) H) ∨ (J.go i H ∧ ∃ Nx : Hp → Prop, (∀ H', Nx H' → ∃ m', m' < m ∧ W (i + 1) m' H') ∧ ∀ x H', J.yld i H x H' → g x (wipe σ vs) H' fun σ2 H2 => wipe σ2 vs = wipe σ vs ∧ tt σ2 H2 fun b H3 =>
    if b = true then tk σ2 H3 fun y H4 => tv σ2 H4 fun z H5 => ∃ H6, Pt D y z H5 H6 ∧ Nx H6 else Nx H3)
theorem dcx_core {u0 : Addr → HO} {Pt : Addr → V → V → Hp → Hp → Prop} (h0 : ∀ (H : Hp) (h : Heap), sysModules < h.objs.size → ObjOk X.prog X.w H (h.push { cls := .type "dict", data := .dict #[] }) h.objs.size (u0 h.objs.size)) (hput : PutR X Pt) {pins : List (Addr × Obj)} {s : Shared} {σ : L2.St} {H : Hp} {Q : VK} {kx vx tg iter : Expr} {ifs : List Expr} {scope : Scope} {own : List (Str × Nat)} {pos pos' : Pos} {wi : TI} {g : TG} {tt : TT} {tk tv : TE} {use : Option (Value → Sem Unit)} {Qf : Value → Shared → Prop}
    (hc : X.calm = true) (hN : X.N.Nodup) (I : Inv X pins σ H s) (hi : PI X tg iter wi) (ok : BlkOk X.N X.env.scope scope own)
    (hg : ∀ (s : Shared) (H : Hp) (C : Addr) (cl : List (Str × Addr)) (fp : List Addr), PG (X.blk s H scope (compEnvC scope cl C X.env) fp) tg g) (ht : ∀ (s : Shared) (H : Hp) (C : Addr) (cl : List (Str × Addr)) (fp : List Addr), PTs (X.blk s H scope (compEnvC scope cl C X.env) fp) ifs tt)
    (hk : ∀ (s : Shared) (H : Hp) (C : Addr) (cl : List (Str × Addr)) (fp : List Addr), PE (X.blk s H scope (compEnvC scope cl C X.env) fp) kx tk)
    (he : ∀ (s : Shared) (H : Hp) (C : Addr) (cl : List (Str × Addr)) (fp : List Addr), PE (X.blk s H scope (compEnvC scope cl C X.env) fp) vx tv) (hs : ∀ x, foldedSetIterable iter X.env x = pure x)
    (h : tDcx u0 Pt wi g tt tk tv (own.map (·.2)) σ H Q)
    (hRR : ∀ D C s' m H', Inv X pins σ H' s' → Q (.ref D) H' → s'.heap.Ns C m → FpOk X pins H' C → compPost (model X.prog X.w) X.A X.xe use Qf (.ref D) C (.ok .next) s') :
    wpAny (model X.prog X.w) X.A (comprehension (.DictComp kx vx [⟨tg, iter, ifs, 0⟩] scope pos) scope X.env pos' newDict false (eval iter X.env) use) Qf X.xe s := by
  have hfree : ∀ y ∈ scope.names, y.2 = .free → ∃ c, X.env.cells.lookup y.1 = some c := fun y hy e => by
    rcases ok.free y hy e with k | k
    · exact I.ok.has _ (.inl k)
    · exact I.ok.has _ (.inr k)
  refine wpAny_comprehension_free (use := use) rfl hs (closure_ok hfree) ok.kind (fun y hy e => by rw [ok.uniq y hy, e])
    (thn (hi.run pins s σ H _ I h) fun xv s1 hx => thn hx fun itv s2 h2 => ?_)
  obtain ⟨it, fp, tn, J, H2, e, I2, T, st2, f2, q⟩ := h2
  subst e
  refine wpAny_newObj_type (newEnv_comp ?_)
  generalize hD : s2.heap.objs.size = D
  have hDn : H2 D = none := I2.hok.fresh (Nat.le_of_eq hD)
  obtain ⟨W, ⟨m0, w0⟩, turn⟩ := q D hDn
  generalize hs3 : ({ s2 with heap := s2.heap.push { cls := .type "dict", data := .dict #[] } } : Shared) = s3
  have I3 : Inv X pins σ (upd H2 D (u0 D)) s3 := by
    rw [← hs3]
    refine I2.laid (t' := s2.toks) (fun b o e => Heap.get?_push_of_some _ e) (Nat.le_of_eq hD) ?_
    rw [← hD]
    exact h0 _ s2.heap I2.big
  have h3 : s3.heap = s2.heap.push { cls := .type "dict", data := .dict #[] } := by rw [← hs3]
  have sz : ∀ b ∈ fp, b < s2.heap.objs.size := fun b hb => by
    obtain ⟨o, e, _⟩ := T.obj _ _ st2 b hb
    exact Heap.lt_size e
  have f3 : ∀ b ∈ fp, FpOk X pins (upd H2 D (u0 D)) b ∧ b < s3.heap.objs.size := fun b hb => by
    have hlt := sz b hb
    refine ⟨⟨?_, (f2 b hb).2⟩, by rw [h3, Heap.size_push]; exact Nat.lt_succ_of_lt hlt⟩
    rw [upd_ne (by rw [← hD]; exact Nat.ne_of_lt hlt)]
    exact (f2 b hb).1
  have st3 : tn 0 s3.heap := T.keep _ _ _ st2 fun b _ o e => by rw [h3]; exact Heap.get?_push_of_some _ e
  have I4 := block_start I3 ok hN f3
  have pg := hg s3 (upd H2 D (u0 D)) s3.heap.objs.size (cellsFrom (s3.heap.objs.size + 1) scope.names (cloFrom X.env.cells scope.names [])) fp
  have pt := ht s3 (upd H2 D (u0 D)) s3.heap.objs.size (cellsFrom (s3.heap.objs.size + 1) scope.names (cloFrom X.env.cells scope.names [])) fp
  have pk := hk s3 (upd H2 D (u0 D)) s3.heap.objs.size (cellsFrom (s3.heap.objs.size + 1) scope.names (cloFrom X.env.cells scope.names [])) fp
  have pe := he s3 (upd H2 D (u0 D)) s3.heap.objs.size (cellsFrom (s3.heap.objs.size + 1) scope.names (cloFrom X.env.cells scope.names [])) fp
  show codeAny _ _ (.compStart (.DictComp kx vx [⟨tg, iter, ifs, 0⟩] scope pos) 0 (.ref it) (.ref D) (compEnvC scope (cellsFrom (s3.heap.objs.size + 1) scope.names (cloFrom X.env.cells scope.names [])) s3.heap.objs.size X.env)) (compPost (model X.prog X.w) X.A X.xe use Qf (.ref D) s3.heap.objs.size) { s3 with heap := pushCells (s3.heap.push { cls := .type "dict", data := .dict #[] }) scope.names }
  have nfp : ∀ b ∈ fp, (upd H2 D (u0 D)) b = none := fun b hb => (f3 b hb).1.1
  generalize hce : compEnvC scope (cellsFrom (s3.heap.objs.size + 1) scope.names (cloFrom X.env.cells scope.names [])) s3.heap.objs.size X.env = ce at I4 pg pt pk pe ⊢
  have cL : ce.locals = s3.heap.objs.size := by subst hce; rfl
  generalize hH3 : upd H2 D (u0 D) = H3 at I3 I4 pg pt pk pe w0 nfp f3
  generalize hs4 : ({ s3 with heap := pushCells (s3.heap.push { cls := .type "dict", data := .dict #[] }) scope.names } : Shared) = s4 at I4 ⊢
  have st4 : tn 0 s4.heap := T.keep _ _ _ st3 fun b _ o e => by rw [← hs4]; exact pushCells_keeps _ _ _ _ (Heap.get?_push_of_some _ e)
  have stat : ∀ {σ' : L2.St} {H' : Hp} {s' : Shared}, Inv (X.blk s3 H3 scope ce fp) [] σ' H' s' → (∀ b ∈ fp, H' b = none) → ∀ b ∈ fp, FpOk (X.blk s3 H3 scope ce fp) [] H' b := fun {σ' H' s'} I' hn b hb =>
    ⟨hn b hb, (I'.ok.exf b hb).1, I'.ok.exfs b hb, .inl hb, fun x c e => (I'.ok.exf b hb).2 x c e, fun p hp => absurd (show p ∈ ([] : List (Addr × Obj)) ++ [] from hp) (by simp)⟩
  have loop : codeAny (model X.prog X.w) X.A (.compLoop (.DictComp kx vx [⟨tg, iter, ifs, 0⟩] scope pos) 0 (.ref it) (.ref D) ce) (compPost (model X.prog X.w) X.A X.xe use Qf (.ref D) s3.heap.objs.size) s4 := by
    refine compLoop_anyD (fun n s' => ∃ i H', Inv (X.blk s3 H3 scope ce fp) [] (wipe σ (own.map (·.2))) H' s' ∧ tn i s'.heap ∧ (∀ b ∈ fp, H' b = none) ∧ W i n H') ?_ m0 ⟨0, H3, I4, st4, nfp, w0⟩
    rintro n s5 ⟨i, H5, I5, st5, n5, w5⟩
    rcases turn i n H5 w5 with ⟨stop, qq⟩ | ⟨go, Nx, hNx, step⟩
    · have td := T.done (X.blk s3 H3 scope ce fp) rfl rfl rfl hc i [] s5 _ H5 (fun _ _ => False) I5 (stat I5 n5) st5 stop
      refine thnF td fun r s6 ⟨hr, I6⟩ => ?_
      subst hr
      have I7 : Inv X pins σ H5 s6 := I3.call' (ch := fp) I6.os I6.base I6.hok I6.bare fun b hb => ⟨(f3 b hb).1.2.2.2.1, (f3 b hb).1.2.1, (f3 b hb).1.2.2.2.2.1, (f3 b hb).1.2.2.2.2.2⟩
      have nC : H5 s3.heap.objs.size = none := by
        have z : H5 ce.locals = none := I6.free
        rw [cL] at z
        exact z
      obtain ⟨m, hn, _⟩ := I6.loc
      have hn : s6.heap.Ns ce.locals m := hn
      rw [cL] at hn
      exact hRR D s3.heap.objs.size s6 m H5 I7 qq hn (I3.fpOk (Nat.le_refl _) nC)
    · have ti := T.item (X.blk s3 H3 scope ce fp) rfl rfl rfl hc i [] s5 _ H5 (fun _ _ => False) I5 (stat I5 n5) st5 go
      refine thnF ti fun r s6 ⟨u, hr, h6⟩ => ?_
      subst hr
      refine thnF h6 fun _ s7 ⟨x, H7, I7, r7, y7, st7, n7⟩ => ?_
      have I7' := I7.pinned (stat I7 n7) (T.obj _ _ st7)
      refine thnF (pg.run _ s7 _ H7 x u _ I7' r7 (step x H7 y7)) fun _ s8 ⟨σ8, H8, I8, hw8, q8⟩ => ?_
      refine thnF (pt.run _ s8 σ8 H8 _ I8 q8) fun b s9 ⟨H9, I9, q9⟩ => ?_
      have fin : ∀ {s' : Shared} {H' : Hp}, Inv (X.blk s3 H3 scope ce fp) ([] ++ pinsAt fp s7.heap) σ8 H' s' → Nx H' → ∃ m, m < n ∧ ∃ i H', Inv (X.blk s3 H3 scope ce fp) [] (wipe σ (own.map (·.2))) H' s' ∧ tn i s'.heap ∧ (∀ b ∈ fp, H' b = none) ∧ W i m H' := fun {s' H'} I' nx => by
        obtain ⟨m', hm, w'⟩ := hNx H' nx
        have pin' : ∀ b ∈ fp, ∀ o, s7.heap.get? b = some o → s'.heap.get? b = some o ∧ H' b = none := fun b hb o e =>
          let z := I'.pin (b, o) (List.mem_append_right _ (List.mem_append_right _ (mem_pinsAt hb e)))
          ⟨z.1, z.2.1⟩
        have hl : (wipe σ (own.map (·.2))).length = σ8.length := by rw [← hw8, wipe_length]
        refine ⟨m', hm, i + 1, H', (I'.unpinned (pins := [])).weak hl (fun j v e => ?_), T.keep _ _ _ st7 fun b hb o e => (pin' b hb o e).1, fun b hb => ?_, w'⟩
        · rw [← hw8] at e
          exact (wipe_some e).1
        · obtain ⟨o, e, _⟩ := T.obj _ _ st7 b hb
          exact (pin' b hb o e).2
      cases b with
      | false =>
        simp only [Bool.false_eq_true, if_false] at q9 ⊢
        exact fin I9 q9
      | true =>
        simp only [if_true] at q9 ⊢
        refine thnF (pk.run _ s9 σ8 H9 _ I9 q9) fun z s10 ⟨yk, H10, I10, r10, q10⟩ => ?_
        refine thnF (pe.run _ s10 σ8 H10 _ I10 q10) fun z2 s11 ⟨yv, H11, I11, r11, H12, pt12, nx⟩ => ?_
        exact hput (X.blk s3 H3 scope ce fp) rfl rfl rfl rfl _ _ _ _ _ _ _ _ _ _ _ _ I11 pt12 r10 r11 fun s12 I12 => fin I12 nx
  exact codeAny_compStart_dict loop (T.self X.A 0 _ _ _ st4 loop)
theorem pe_dcx {u0 : Addr → HO} {Pt : Addr → V → V → Hp → Hp → Prop} (h0 : ∀ (H : Hp) (h : Heap), sysModules < h.objs.size → ObjOk X.prog X.w H (h.push { cls := .type "dict", data := .dict #[] }) h.objs.size (u0 h.objs.size)) (hput : PutR X Pt) {kx vx tg iter : Expr} {ifs : List Expr} {scope : Scope} {own : List (Str × Nat)} {pos : Pos} {wi : TI} {g : TG} {tt : TT} {tk tv : TE} (hc : X.calm = true) (hN : X.N.Nodup) (hi : PI X tg iter wi) (ok : BlkOk X.N X.env.scope scope own)
    (hg : ∀ (s : Shared) (H : Hp) (C : Addr) (cl : List (Str × Addr)) (fp : List Addr), PG (X.blk s H scope (compEnvC scope cl C X.env) fp) tg g) (ht : ∀ (s : Shared) (H : Hp) (C : Addr) (cl : List (Str × Addr)) (fp : List Addr), PTs (X.blk s H scope (compEnvC scope cl C X.env) fp) ifs tt)
    (hk : ∀ (s : Shared) (H : Hp) (C : Addr) (cl : List (Str × Addr)) (fp : List Addr), PE (X.blk s H scope (compEnvC scope cl C X.env) fp) kx tk)
    (he : ∀ (s : Shared) (H : Hp) (C : Addr) (cl : List (Str × Addr)) (fp : List Addr), PE (X.blk s H scope (compEnvC scope cl C X.env) fp) vx tv) (hs : ∀ x, foldedSetIterable iter X.env x = pure x := by intro _; rfl) :
    PE X (.DictComp kx vx [⟨tg, iter, ifs, 0⟩] scope pos) (tDcx u0 Pt wi g tt tk tv (own.map (·.2))) := by
  refine ⟨fun pins s σ H Q I h => ?_⟩
  rw [arm_eval_DictComp]
  refine dcx_core h0 hput hc hN I hi ok hg ht hk he hs h fun D C s' m H' I' q hn f => ⟨m, hn, fun h'' sb => ?_⟩
  obtain ⟨f0, f1, f2, f3, f4, f5⟩ := f
  exact ⟨.ref D, H', I'.turned (t' := s'.toks) (fun b o hb e => (sb.2 b hb).trans e) f0 f1 f3 f4 f5, rfl, q⟩
end
end DL
namespace DL
open PySem PySem.Spec PyProof.Rows L2
variable {K : PySem.W.Frag}
def keysD : List D → Option (List Key)
  | [] => some []
  | d :: ds => match keyD d, keysD ds with
    | some k, some ks => some (k :: ks)
    | _, _ => none
theorem keyD_rep {H : Hp} {d : D} {k : Key} {v : V} (h : keyD d = some k) (r : Rep K H d v) : v = kV k := by
  cases d <;> (try cases h)
  · cases r; rfl
  · cases r; rfl
theorem keysD_reps {H : Hp} : ∀ {ds : List D} {ks : List Key} {vs : List V}, keysD ds = some ks → Reps K H ds vs → vs = ks.map kV
  | [], _, _, h, r => by unfold keysD at h; cases h; unfold Reps at r; subst r; rfl
  | d :: ds, ks, vs, h, r => by
    unfold Reps at r
    obtain ⟨v, w, rfl, r1, r2⟩ := r
    unfold keysD at h
    cases e1 : keyD d with
    | none => rw [e1] at h; cases h
    | some k =>
      cases e2 : keysD ds with
      | none => rw [e1, e2] at h; cases h
      | some l =>
        rw [e1, e2] at h
        cases h
        rw [List.map_cons, keyD_rep e1 r1, keysD_reps e2 r2]
open Classical in
noncomputable def dput (kd vd : D) : MO → Option MO
  | .dK kvs => match keyD kd with
    | some k => if k ∈ kvs.map (·.1) then some (.dK (kvs.map fun p => if p.1 = k then (p.1, vd) else p)) else some (.dK (kvs ++ [(k, vd)]))
    | none => none
  | .dX P w kvs => match kd with
    | .tup ds => match keysD ds with
      | some ks => if ks ∈ kvs.map (·.1) then none else some (.dX P w (kvs ++ [(ks, vd)]))
      | none => none
    | _ => none
  | _ => none
def dlen : MO → Nat
  | .dK kvs => kvs.length
  | .dX _ _ kvs => kvs.length
  | _ => 0
def dcGo (T : DIt) (g : Tg) (wt : WT) (wk wv : WE) (ρ : Ro) (fin : MO → Mp → Prop) : List D → MO → Mp → Prop
  | [], acc, M => T.keep M ∧ fin acc M
  | x :: xs, acc, M => T.keep M ∧ ∃ ρ1, g.asn x ρ = some ρ1 ∧ wt ρ1 M fun b M1 => if b = true then wk ρ1 M1 fun kd M2 => wv ρ1 M2 fun vd M3 => ∃ acc', dput kd vd acc = some acc' ∧ dcGo T g wt wk wv ρ fin xs acc' M3 else dcGo T g wt wk wv ρ fin xs acc M1
def wDc (emp : MO) (wi : WI) (g : Tg) (wt : WT) (wk wv : WE) (vs : List Nat) : WE := fun ρ M Q => wi ρ M fun T M1 => T.items.length ≤ sizeLine ∧ dcGo T g wt wk wv (wipeD ρ vs) (fun acc M2 => ∀ p, M2 p = none → Q (.ref p) (up M2 p acc)) T.items emp M1
inductive DcK where | k | t (P : Program) (w : World)
def DcK.emp : DcK → MO | .k => .dK [] | .t P w => .dX P w []
def DcK.u0 : DcK → Addr → HO | .k => fun _ => .dK [] | .t P w => fun a => .ext (TD P w a [])
def DcK.ok (X : Cx) : DcK → Prop | .k => True | .t P w => P = X.prog ∧ w = X.w
def DcK.is : DcK → MO → Prop
  | .k, o => ∃ kvs, o = .dK kvs
  | .t P w, o => ∃ kvs, o = .dX P w kvs
theorem DcK.nc {kd : DcK} {o : MO} (h : kd.is o) : o.isCod = false := by
  cases kd <;> (obtain ⟨kvs, rfl⟩ := h; rfl)
def DcK.Pt (K : PySem.W.Frag) : DcK → Addr → V → V → Hp → Hp → Prop
  | .k => fun D y z H H' => ∃ kvs k, y = kV k ∧ H D = some (.dK kvs) ∧ kvs.length < sizeLine ∧ H' = upd H D (.dK (putK kvs k z))
  | .t P w => fun D y z H H' => ∃ xs k b, y = .ref b ∧ H D = some (.ext (TD P w D xs)) ∧ SqT K H b (k.map kV) ∧ (∀ q ∈ xs, SqT K H q.2.1 (q.1.map kV)) ∧ k ∉ xs.map (·.1) ∧ xs.length < sizeLine ∧ H' = upd H D (.ext (TD P w D (xs ++ [(k, b, z)])))
section
variable {X : Cx}
theorem td_ok {P : Program} {w : World} {H : Hp} {h : Heap} {a : Addr} {xs : List (List Key × Addr × V)} (t : TD P w a xs h) : ObjOk P w H h a (.ext (TD P w a xs)) := by
  refine ⟨t, ?_, fun h1 h2 t1 k => ?_⟩
  · obtain ⟨_, _, _, o, _, _, e, _⟩ := t; exact ⟨o, e⟩
  · obtain ⟨s, ys, f, o, es, ep, e, r⟩ := t1
    exact ⟨s, ys, f, o, es, ep, k o e, r⟩
theorem key_sq {pins : List (Addr × Obj)} {σ : L2.St} {H : Hp} {s : Shared} {b : Addr} {ks : List Key} (I : Inv X pins σ H s) (h : SqT X.K H b (ks.map kV)) : (tupleKind (mixKind X.prog X.w)).is s.heap ks b := by
  obtain ⟨its, r, ⟨o, e1, e2, n, e3⟩, _⟩ := I.tuple h
  exact ⟨o, its.toArray, n, e1, e2, e3, by simpa using items_are r⟩
theorem fit_keys : ∀ {xs : List (List Key × Addr × V)} {ys : List (List Key × Addr × Value)}, Paired (fun (p : List Key × Addr × V) (q : List Key × Addr × Value) => p.1 = q.1 ∧ p.2.1 = q.2.1 ∧ RelV p.2.2 q.2.2) xs ys → xs.map (·.1) = ys.map (·.1) ∧ xs.length = ys.length ∧ ∀ q ∈ ys, ∃ p ∈ xs, p.1 = q.1 ∧ p.2.1 = q.2.1
  | _, _, .nil => ⟨rfl, rfl, fun q hq => by cases hq⟩
  | _, _, .cons h r => by
    obtain ⟨a, b, c⟩ := fit_keys r
    refine ⟨by rw [List.map_cons, List.map_cons, a, h.1], by rw [List.length_cons, List.length_cons, b], fun q hq => ?_⟩
    rcases List.mem_cons.mp hq with rfl | hq
    · exact ⟨_, List.mem_cons_self, h.1, h.2.1⟩
    · obtain ⟨p, hp, e⟩ := c q hq; exact ⟨p, List.mem_cons_of_mem _ hp, e⟩
theorem td_dict {pins : List (Addr × Obj)} {σ : L2.St} {H : Hp} {s : Shared} {a : Addr} {xs : List (List Key × Addr × V)} (I : Inv X pins σ H s) (e : H a = some (.ext (TD X.prog X.w a xs))) (hs : ∀ q ∈ xs, SqT X.K H q.2.1 (q.1.map kV)) :
    (a == sysModules) = false ∧ ∃ ys, Paired (fun (p : List Key × Addr × V) (q : List Key × Addr × Value) => p.1 = q.1 ∧ p.2.1 = q.2.1 ∧ RelV p.2.2 q.2.2) xs ys ∧ s.heap.DictOfH (tupleKind (mixKind X.prog X.w)) a ys := by
  obtain ⟨⟨hsm, ys, f, o, es, ep, h1, h2, h3, h4, h5⟩, _, _⟩ := (show ObjOk X.prog X.w H s.heap a (.ext (TD X.prog X.w a xs)) from I.hok a _ e)
  refine ⟨hsm, ys, f, o, es, ep, h1, h2, h3, h4, fun q hq => ?_, h5⟩
  obtain ⟨p, hp, e1, e2⟩ := (fit_keys f).2.2 q hq
  have := key_sq I (hs p hp)
  rw [← e1, ← e2]
  exact this
theorem atKey_new {xs : List (List Key × Addr × Value)} {k : List Key} (h : k ∉ xs.map (·.1)) : atKey xs k = none := by
  unfold atKey
  rw [Option.map_eq_none_iff, List.find?_eq_none]
  intro x hx
  simp only [decide_eq_true_eq]
  intro e
  exact h (e ▸ List.mem_map_of_mem hx)
theorem putR (kd : DcK) (ok : kd.ok X) (hu : Ru X) : PutR X (kd.Pt X.K) := by
  intro Y e1 e2 e3 e4 pins σ H H' s D y z u r E Q I pt ry rz h
  cases kd with
  | k =>
    obtain ⟨kvs, k, rfl, hD, hz, rfl⟩ := pt
    exact d_dictSet I hD hz ry rz h
  | t P w =>
    obtain ⟨xs, k, b, rfl, hD, hb, hs, hk, hz, rfl⟩ := pt
    obtain ⟨rfl, rfl⟩ := ok
    rw [← e1, ← e2] at hD h
    rw [← e3] at hb hs
    cases (show u = Value.ref b from ry)
    obtain ⟨hsm, ys, f, dd⟩ := td_dict I hD hs
    obtain ⟨f1, f2, _⟩ := fit_keys f
    refine wpAny_dictSet_heap (hsz := by rw [← f2]; exact Nat.le_of_lt hz) (show Y.A.units < cLine by rw [e4]; have := hu; omega) (key_sq I hb) dd fun h' dd' hs' => h _ ?_
    rw [storedH_new (atKey_new (by rw [← f1]; exact hk))] at dd'
    obtain ⟨q, es, ep, hq, h2, h3, h4, _, h5⟩ := dd'
    exact d_write I (by rw [hD]; exact True.intro) hs' ⟨q, hq⟩ (td_ok ⟨hsm, _, f.snoc ⟨rfl, rfl, rz⟩, q, es, ep, hq, h2, h3, h4, h5⟩)
theorem emp_ok (kd : DcK) (ok : kd.ok X) (H : Hp) (h : Heap) (hb : sysModules < h.objs.size) : ObjOk X.prog X.w H (h.push { cls := .type "dict", data := .dict #[] }) h.objs.size (kd.u0 h.objs.size) := by
  cases kd with
  | k => exact dk_empty h hb
  | t P w =>
    obtain ⟨rfl, rfl⟩ := ok
    exact td_ok ⟨by rw [beq_eq_false_iff_ne]; exact Nat.ne_of_gt hb, [], .nil, _, #[], 0, Heap.get?_push_size _ rfl, ⟨rfl, rfl, rfl⟩, rfl, rfl, List.nodup_nil⟩
theorem emp_rep (kd : DcK) {H : Hp} {D : Addr} (hD : H D = none) : RepO K (upd H D (kd.u0 D)) D kd.emp := by
  cases kd with
  | k => exact ⟨[], upd_same, by unfold Pairs; rfl⟩
  | t P w => exact ⟨[], upd_same, by unfold TPs; rfl⟩
end
theorem Pairs.more {H : Hp} {κ : Type} {k : κ} {d : D} {v : V} (hv : Rep K H d v) : ∀ {ds : List (κ × D)} {xs : List (κ × V)}, Pairs K H ds xs → Pairs K H (ds ++ [(k, d)]) (xs ++ [(k, v)])
  | [], _, h => by unfold Pairs at h; subst h; exact ⟨v, [], rfl, hv, rfl⟩
  | (j, c) :: ds, _, h => by
    unfold Pairs at h
    obtain ⟨v', r, rfl, h1, h2⟩ := h
    exact ⟨v', _, rfl, h1, Pairs.more hv h2⟩
theorem valV_new {kvs : List (Key × V)} {k : Key} (h : k ∉ kvs.map (·.1)) : valV kvs k = none := by
  unfold valV
  rw [Option.map_eq_none_iff, List.find?_eq_none]
  intro x hx
  simp only [decide_eq_true_eq]
  intro e
  exact h (e ▸ List.mem_map_of_mem hx)
theorem Pairs.mapK {κ : Type} [DecidableEq κ] {H : Hp} {k : κ} {d : D} {v : V} (hv : Rep K H d v) : ∀ {ds : List (κ × D)} {vs : List (κ × V)}, Pairs K H ds vs → Pairs K H (ds.map fun p => if p.1 = k then (p.1, d) else p) (vs.map fun p => if p.1 = k then (p.1, v) else p)
  | [], _, h => by unfold Pairs at h; subst h; exact rfl
  | (j, c) :: ds, _, h => by
    unfold Pairs at h
    obtain ⟨u, r, rfl, h1, h2⟩ := h
    have ih := Pairs.mapK (k := k) hv h2
    rw [List.map_cons, List.map_cons]
    by_cases e : j = k
    · simp only [e, if_true]
      exact ⟨v, _, rfl, hv, ih⟩
    · simp only [e, if_false]
      exact ⟨u, _, rfl, h1, ih⟩
theorem put_rep (kd : DcK) {H : Hp} {A0 : Addr} {acc acc' : MO} {dk dv : D} {y z : V} (hi : kd.is acc) (r : RepO K H A0 acc) (h : dput dk dv acc = some acc') (rk : Rep K H dk y) (rv : Rep K H dv z) (hz : dlen acc < sizeLine) :
    ∃ u, kd.Pt K A0 y z H (upd H A0 u) ∧ RepO K (upd H A0 u) A0 acc' ∧ kd.is acc' ∧ dlen acc' ≤ dlen acc + 1 := by
  have nt := r.notup (DcK.nc hi)
  have ts : ∀ u, TupS K H (upd H A0 u) := fun u => .at_ nt
  cases kd with
  | k =>
    obtain ⟨kvs, rfl⟩ := hi
    obtain ⟨vs, e, ps⟩ := r
    unfold dput at h
    dsimp only at h
    cases ek : keyD dk with
    | none => rw [ek] at h; cases h
    | some k =>
      rw [ek] at h
      dsimp only at h
      split at h
      · rename_i hn
        cases h
        have hn' : k ∈ vs.map (·.1) := by rw [← ps.keys]; exact hn
        refine ⟨.dK (putK vs k z), ⟨vs, k, keyD_rep ek rk, e, by rw [← ps.length]; exact hz, rfl⟩, ⟨_, upd_same, ?_⟩, ⟨_, rfl⟩, by simp [dlen]⟩
        have ep : putK vs k z = vs.map (fun kv => if kv.1 = k then (kv.1, z) else kv) := by
          unfold putK
          obtain ⟨x, hx, e⟩ := List.mem_map.mp hn'
          rw [if_pos (List.any_eq_true.mpr ⟨x, hx, by simp [e]⟩)]
        rw [ep]
        exact (Pairs.mapK rv ps).stay (ts _)
      · rename_i hn
        cases h
        have hn' : k ∉ vs.map (·.1) := by rw [← ps.keys]; intro hm; exact hn hm
        refine ⟨.dK (putK vs k z), ⟨vs, k, keyD_rep ek rk, e, by rw [← ps.length]; exact hz, rfl⟩, ⟨_, upd_same, ?_⟩, ⟨_, rfl⟩, by simp [dlen]⟩
        rw [putK_new z (valV_new hn')]
        exact (Pairs.more rv ps).stay (ts _)
  | t P w =>
    obtain ⟨kvs, rfl⟩ := hi
    obtain ⟨xs, e, ps⟩ := r
    unfold dput at h
    dsimp only at h
    cases dk <;> (try (cases h; done))
    rename_i ds
    dsimp only at h
    cases ek : keysD ds with
    | none => rw [ek] at h; cases h
    | some ks =>
      rw [ek] at h
      dsimp only at h
      split at h
      · cases h
      · rename_i hn
        cases h
        unfold Rep at rk
        obtain ⟨b, vs, rfl, sq, rs⟩ := rk
        have evs := keysD_reps ek rs
        subst evs
        have hn' : ks ∉ xs.map (·.1) := by rw [← ps.keys]; intro hm; exact hn hm
        have el : kvs.length = xs.length := by have := congrArg List.length ps.keys; simpa using this
        refine ⟨.ext (TD P w A0 (xs ++ [(ks, b, z)])), ⟨xs, ks, b, rfl, e, sq, ps.sq, hn', by rw [← el]; exact hz, rfl⟩, ⟨_, upd_same, ?_⟩, ⟨_, rfl⟩, by simp [dlen]⟩
        exact (TPs.more sq rv ps).stay (ts _)
theorem u0_no (kd : DcK) {a : Addr} : NoO a (kd.u0 a) := by
  cases kd with
  | k => exact ⟨fun _ z => (by unfold LamX.CodeO at z; cases z), fun _ z => (by cases z)⟩
  | t P w => exact (td_no (H := fun _ => some (.ext (TD P w a []))) rfl).no rfl
theorem RepM.offO {H : Hp} {M : Mp} {o : MO} (r : RepM K H M) {p : Addr} {u : HO} (h : M p = Option.none) (hp : RepO K H p o) (hn : o.isCod = false) : RepM K (upd H p u) M := fun a q e => by
  have ha : a ≠ p := fun z => by subst z; rw [h] at e; cases e
  exact (r a q e).stay (.at_ (hp.notup hn)) (upd_ne ha)
theorem dc_of (kd : DcK) {wi : WI} {g : Tg} {wt : WT} {wk wv : WE} {vs : List Nat} (hg : ∀ j ∈ g.slots, j ∈ vs) {σ : L2.St} {H : Hp} {Q : VK} (h : tD K (wDc kd.emp wi g wt wk wv vs) σ H Q) : tDcx kd.u0 (kd.Pt K) (iD K wi) (gD K g) (tDT K wt) (tD K wk) (tD K wv) vs σ H Q := by
  obtain ⟨ρ, M, F, Q0, s, q, gg⟩ := h
  refine ⟨ρ, M, F, _, s, q, fun T M1 J H1 q1 t1 f1 r1 it => ?_⟩
  obtain ⟨hlen, q1⟩ := q1
  intro D hD
  have fr1 := s.fr.next f1
  have nF : ∀ a, F a → a ≠ D := fun a ha z => by obtain ⟨⟨o, e, _⟩, _⟩ := fr1 a ha; rw [z, hD] at e; cases e
  generalize hfin : (fun acc M2 => ∀ p, M2 p = none → Q0 (.ref p) (up M2 p acc)) = fin at q1
  refine ⟨fun i m H' => m = T.items.length - i ∧ i ≤ T.items.length ∧ ∃ acc M', kd.is acc ∧ RepO K H' D acc ∧ dlen acc ≤ i ∧ RepM K H' M' ∧ FrOk (fun a => F a ∨ a = D) H' M' ∧ TupS K H H' ∧ Frm F H H' M' ∧ TupS K H1 H' ∧ dcGo T g wt wk wv (wipeD ρ vs) fin (T.items.drop i) acc M', ⟨T.items.length, rfl, Nat.zero_le _, kd.emp, M1, ?_, emp_rep kd hD, ?_, r1.more hD, fun a ha => ?_, t1.trans (.new hD), f1.trans (fr1.more hD), .new hD, q1⟩, ?_⟩
  · cases kd <;> exact ⟨_, rfl⟩
  · cases kd <;> exact Nat.le_refl _
  · rcases ha with ha | rfl
    · exact ⟨by rw [upd_ne (nF a ha)]; exact (fr1 a ha).1, (fr1 a ha).2⟩
    · exact ⟨⟨_, upd_same, u0_no kd⟩, r1.none hD⟩
  · rintro i m H2 ⟨rfl, hi, acc, M2, ia, eD, la, r2, fr2, t2, f2, tt2, q2⟩
    by_cases hlt : i < T.items.length
    · rw [List.drop_eq_getElem_cons hlt] at q2
      unfold dcGo at q2
      obtain ⟨hk, ρ1, ea, q2⟩ := q2
      obtain ⟨go, yl⟩ := (it H2 M2 tt2 r2 hk i).1 hlt
      refine .inr ⟨go, fun H' => ∃ acc M', kd.is acc ∧ RepO K H' D acc ∧ dlen acc ≤ i + 1 ∧ RepM K H' M' ∧ FrOk (fun a => F a ∨ a = D) H' M' ∧ TupS K H H' ∧ Frm F H H' M' ∧ TupS K H1 H' ∧ dcGo T g wt wk wv (wipeD ρ vs) fin (T.items.drop (i + 1)) acc M', fun H' ⟨acc, M', h1, h2, h3, h4, h5, h6, h7, h8, h9⟩ => ⟨T.items.length - (i + 1), by omega, rfl, hlt, acc, M', h1, h2, h3, h4, h5, h6, h7, h8, h9⟩, fun x H3 hy => ?_⟩
      obtain ⟨d, ed, t3, k3, r3, p3⟩ := yl x H3 hy
      rw [List.getElem?_eq_getElem hlt] at ed
      cases ed
      have f3 : Frm (fun a => F a ∨ a = D) H2 H3 M2 := .of_same fr2 k3
      have fr3 := fr2.next f3
      have s3 : Stt K H3 (L2.wipe σ vs) (wipeD ρ vs) M2 (fun a => F a ∨ a = D) := by
        refine ⟨?_, r3, fr3⟩
        have e := s.rs.wipe vs
        exact ⟨e.1, fun i d h => let ⟨v, e1, e2⟩ := e.2 i d h; ⟨v, e1, e2.stay (t2.trans t3)⟩⟩
      refine ⟨_, wipeD ρ vs, ρ1, M2, _, p3, s3, ea, fun σ2 o2 s2 => ⟨wipe_off (o2.mono hg), ρ1, M2, _, _, s2, q2, fun b M4 H4 q4 t4 f4 r4 => ?_⟩⟩
      have e4 : RepO K H4 D acc := eD.stay (t3.trans t4) (by rw [(f4 D (.inr rfl)).1, (f3 D (.inr rfl)).1])
      have F4 : Frm F H H4 M4 := f2.trans (Frm.trans (M1 := M2) (fun a ha => f3 a (.inl ha)) fun a ha => f4 a (.inl ha))
      cases b with
      | false =>
        rw [if_neg Bool.false_ne_true] at q4
        show if false = true then _ else _
        rw [if_neg Bool.false_ne_true]
        exact ⟨acc, M4, ia, e4, by omega, r4, fr3.next f4, (t2.trans t3).trans t4, F4, (tt2.trans t3).trans t4, q4⟩
      | true =>
        rw [if_pos rfl] at q4
        show if true = true then _ else _
        rw [if_pos rfl]
        refine ⟨ρ1, M4, _, _, s2.next t4 f4 r4, q4, fun kd' M5 y H5 q5 t5 f5 r5 p5 => ⟨ρ1, M5, _, _, (s2.next t4 f4 r4).next t5 f5 r5, q5, fun vd M6 z H6 q6 t6 f6 r6 p6 => ?_⟩⟩
        obtain ⟨acc', ep, q6⟩ := q6
        have e6 : RepO K H6 D acc := e4.stay (t5.trans t6) (by rw [(f6 D (.inr rfl)).1, (f5 D (.inr rfl)).1])
        have n6 : M6 D = none := (f6 D (.inr rfl)).2
        obtain ⟨u, pt, e7, ia', la'⟩ := put_rep kd ia e6 ep (p5.stay t6) p6 (by omega)
        have tl : TupS K H6 (upd H6 D u) := .at_ (e6.notup (DcK.nc ia))
        have T6 := (t3.trans t4).trans (t5.trans t6)
        refine ⟨_, pt, acc', M6, ia', e7, by omega, r6.offO n6 e6 (DcK.nc ia), fun a ha => ?_, (t2.trans T6).trans tl, fun a ha => ?_, (tt2.trans T6).trans tl, q6⟩
        · rcases ha with ha | rfl
          · have := (((fr3.next f4).next f5).next f6) a (.inl ha)
            exact ⟨by rw [upd_ne (nF a ha)]; exact this.1, this.2⟩
          · exact ⟨⟨_, upd_same, (e7.notup (DcK.nc ia')).no upd_same⟩, n6⟩
        · have e := ((F4.trans fun a ha => f5 a (.inl ha)).trans fun a ha => f6 a (.inl ha)) a ha
          exact ⟨by rw [upd_ne (nF a ha)]; exact e.1, e.2⟩
    · have e : i = T.items.length := by omega
      subst e
      rw [List.drop_length] at q2
      unfold dcGo at q2
      obtain ⟨hk, q2⟩ := q2
      refine .inl ⟨(it H2 M2 tt2 r2 hk _).2 rfl, ?_⟩
      subst hfin
      have n2 : M2 D = none := (fr2 D (.inr rfl)).2
      refine gg _ _ _ H2 (q2 D n2) t2 (fun a ha => ⟨(f2 a ha).1, by rw [up_ne (nF a ha)]; exact (f2 a ha).2⟩) (fun a o ea => ?_) rfl
      by_cases ha : a = D
      · subst ha; rw [up_same] at ea; cases ea; exact eD
      · rw [up_ne ha] at ea; exact r2 a o ea
section
variable {X : Cx} {pos : Pos}
theorem pd_dc (kd : DcK) (okd : kd.ok X) (hu : Ru X) {kx vx tg iter : Expr} {ifs : List Expr} {scope : Scope} {own : List (Str × Nat)} {wi : WI} {g : Tg} {wt : WT} {wk wv : WE} (hc : X.calm = true) (hN : X.N.Nodup) (hi : PI X tg iter (iD X.K wi)) (ok : BlkOk X.N X.env.scope scope own)
    (hg : ∀ (s : Shared) (H : Hp) (C : Addr) (cl : List (Str × Addr)) (fp : List Addr), PG (X.blk s H scope (compEnvC scope cl C X.env) fp) tg (gD X.K g)) (ht : ∀ (s : Shared) (H : Hp) (C : Addr) (cl : List (Str × Addr)) (fp : List Addr), PTs (X.blk s H scope (compEnvC scope cl C X.env) fp) ifs (tDT X.K wt))
    (hk : ∀ (s : Shared) (H : Hp) (C : Addr) (cl : List (Str × Addr)) (fp : List Addr), PE (X.blk s H scope (compEnvC scope cl C X.env) fp) kx (tD X.K wk))
    (he : ∀ (s : Shared) (H : Hp) (C : Addr) (cl : List (Str × Addr)) (fp : List Addr), PE (X.blk s H scope (compEnvC scope cl C X.env) fp) vx (tD X.K wv)) (hs : ∀ x, foldedSetIterable iter X.env x = pure x) (hgs : ∀ j ∈ g.slots, j ∈ own.map (·.2)) :
    PE X (.DictComp kx vx [⟨tg, iter, ifs, 0⟩] scope pos) (tD X.K (wDc kd.emp wi g wt wk wv (own.map (·.2)))) := (pe_dcx (emp_ok kd okd) (putR kd okd hu) hc hN hi ok hg ht hk he hs).imp fun _ _ _ h => dc_of kd hgs h
end
end DL
namespace DL
open PySem PySem.Spec PyProof.Rows L2
variable {K : PySem.W.Frag}
def kD : Key → D
  | .inl i => .int i
  | .inr x => .str x
def keyT (ks : List Key) : D := .tup (ks.map kD)
theorem kD_rep {H : Hp} (k : Key) : Rep K H (kD k) (kV k) := by cases k <;> rfl
theorem Reps.keysR {H : Hp} : ∀ ks : List Key, Reps K H (ks.map kD) (ks.map kV)
  | [] => .nil
  | k :: ks => .cons (kD_rep k) (Reps.keysR ks)
theorem keyT_rep {H : Hp} {ks : List Key} {b : Addr} (h : SqT K H b (ks.map kV)) : Rep K H (keyT ks) (.ref b) := by
  unfold keyT Rep
  exact ⟨b, _, rfl, h, .keysR ks⟩
theorem TPs.keyReps {H : Hp} : ∀ {kvs : List (List Key × D)} {xs : List (List Key × Addr × V)}, TPs K H kvs xs → Reps K H (kvs.map fun p => keyT p.1) (xs.map fun x => V.ref x.2.1)
  | [], _, h => by unfold TPs at h; subst h; exact .nil
  | (k, d) :: ds, _, h => by
    unfold TPs at h
    obtain ⟨b, v, r, rfl, h1, h2, h3⟩ := h
    exact .cons (keyT_rep h1) h3.keyReps
section
variable {X : Cx} {a b : Expr} {wa wb : WE} {pos : Pos}
def wDnew (kd : DcK) : WE := fun _ M Q => ∀ p, M p = none → Q (.ref p) (up M p kd.emp)
theorem pd_dnew (kd : DcK) (okd : kd.ok X) : PE X (.Dict [] [] pos) (tD X.K (wDnew kd)) := ⟨fun pins s σ H Q I h => by
  obtain ⟨ρ, M, F, Q0, st, q, g⟩ := h
  have hp : H s.heap.objs.size = none := I.hok.fresh (Nat.le_refl _)
  refine wpAny_Dict_empty ⟨.ref s.heap.objs.size, _, I.laid (a := s.heap.objs.size) (o := kd.u0 s.heap.objs.size) (t' := s.toks) (fun _ _ q => Heap.get?_push_of_some _ q) (Nat.le_refl _) (emp_ok kd okd _ s.heap I.big), rfl, ?_⟩
  exact g _ _ _ _ (q _ (st.rm.none hp)) (.new hp) (st.fr.new hp _) (st.rm.new hp (emp_rep kd hp)) rfl⟩
def hasK {κ β : Type} [DecidableEq κ] (kvs : List (κ × β)) (k : κ) : Bool := kvs.any fun p => decide (p.1 = k)
theorem hasK_iff {κ β : Type} [DecidableEq κ] {kvs : List (κ × β)} {k : κ} : hasK kvs k = true ↔ k ∈ kvs.map Prod.fst := by
  unfold hasK
  rw [List.any_eq_true, List.mem_map]
  constructor
  · rintro ⟨p, hp, e⟩; exact ⟨p, hp, of_decide_eq_true e⟩
  · rintro ⟨p, hp, e⟩; exact ⟨p, hp, decide_eq_true e⟩
theorem hasK_keys {κ β γ : Type} [DecidableEq κ] {xs : List (κ × β)} {ys : List (κ × γ)} (h : xs.map Prod.fst = ys.map Prod.fst) (k : κ) : hasK xs k = hasK ys k := by
  rw [Bool.eq_iff_iff, hasK_iff, hasK_iff, h]
theorem val_keys {κ : Type} [DecidableEq κ] : ∀ {kvs : List (κ × V)} {k : κ}, (valV kvs k).isSome = hasK kvs k
  | [], k => by simp [valV, hasK]
  | (j, v) :: kvs, k => by
    have ih := val_keys (kvs := kvs) (k := k)
    unfold valV hasK at ih ⊢
    rw [List.find?_cons, List.any_cons]
    by_cases h : j = k
    · subst h; simp
    · simp only [h, decide_false, Bool.false_or]
      exact ih
theorem at_keys {xs : List (List Key × Addr × V)} {ys : List (List Key × Addr × Value)} (f : Paired (fun (p : List Key × Addr × V) (q : List Key × Addr × Value) => p.1 = q.1 ∧ p.2.1 = q.2.1 ∧ RelV p.2.2 q.2.2) xs ys) (k : List Key) :
    (∀ v, (xs.find? fun x => decide (x.1 = k)).map (fun x => x.2.2) = some v → ∃ p, atKey ys k = some p ∧ RelV v p.2) ∧ (atKey ys k).isSome = hasK xs k := by
  induction f with
  | nil => exact ⟨fun v e => (by cases e), by simp [atKey, hasK]⟩
  | @cons x y xs ys h t ih =>
    unfold atKey hasK at ih ⊢
    rw [List.find?_cons, List.find?_cons, List.any_cons]
    by_cases e : x.1 = k
    · have e' : y.1 = k := h.1 ▸ e
      rw [e, e']
      simp only [decide_true]
      refine ⟨fun v q => ⟨y.2, rfl, ?_⟩, by simp⟩
      obtain rfl : x.2.2 = v := Option.some.inj q
      exact h.2.2
    · have e' : ¬ y.1 = k := h.1 ▸ e
      simp only [e, e', decide_false, Bool.false_or]
      exact ih
def inX (P : Program) (w : World) (neg : Bool) : D → D → Mp → DQ → Prop := fun x y M Q => ∃ p, y = .ref p ∧
  ((∃ kvs k, M p = some (.dK kvs) ∧ keyD x = some k ∧ Q (.bl (negB neg (hasK kvs k))) M) ∨ ∃ kvs ds k, M p = some (.dX P w kvs) ∧ x = .tup ds ∧ keysD ds = some k ∧ Q (.bl (negB neg (hasK kvs k))) M)
theorem od_inX (P : Program) (w : World) (eP : P = X.prog) (ew : w = X.w) (neg : Bool) (hu : Ru X) : OpR X (compareOp (if neg then .NotIn else .In)) (rD X.K (inX P w neg)) := fun pins s σ H x y v u Q I rx ry h => by
  subst eP ew
  have hu1 : X.A.units + 1 < cLine := by have := hu; omega
  obtain ⟨dx, dy, M, F, Q0, r1, r2, m, fr, ⟨p, rfl, h⟩, g⟩ := h
  cases r2
  cases (show u = Value.ref p from ry)
  rcases h with ⟨kvs, k, e, ek, hq⟩ | ⟨kvs, ds, k, e, rfl, ek, hq⟩
  · obtain ⟨vs, e1, ps⟩ := m _ _ e
    obtain rfl := keyD_rep ek r1
    have q := g _ M _ H hq (.refl _) fr.frm m rfl
    have ev : (valV vs k).isSome = hasK kvs k := by rw [val_keys]; exact hasK_keys ps.keys.symm k
    cases neg with
    | false => exact d_in hu1 I (.k e1) rx fun s' I' => ⟨.bl _, H, I', rfl, by rw [ev]; exact q⟩
    | true => exact d_notIn hu1 I (.k e1) rx fun s' I' => ⟨.bl _, H, I', rfl, by rw [ev]; exact q⟩
  · obtain ⟨xs, e1, ps⟩ := m _ _ e
    have q := g _ M _ H hq (.refl _) fr.frm m rfl
    unfold Rep at r1
    obtain ⟨b, vs, rfl, sq, rs⟩ := r1
    have evs := keysD_reps ek rs
    subst evs
    cases (show v = Value.ref b from rx)
    obtain ⟨hsm, ys, f, dd⟩ := td_dict I e1 ps.sq
    have ea : (atKey ys k).isSome = hasK kvs k := (at_keys f k).2.trans (hasK_keys ps.keys.symm k)
    cases neg with
    | false => exact wpAny_in_heap (tupleKind_room_in1 hu1) (key_sq I sq) hsm dd ⟨.bl _, H, I.tok _, rfl, by rw [ea]; exact q⟩
    | true => exact wpAny_notIn_heap (tupleKind_room_in1 hu1) (key_sq I sq) hsm dd ⟨.bl _, H, I.tok _, rfl, by rw [ea]; exact q⟩
theorem look_val {κ : Type} [DecidableEq κ] {H : Hp} : ∀ {ds : List (κ × D)} {vs : List (κ × V)} {k : κ} {d : D}, Pairs K H ds vs → (ds.find? fun p => decide (p.1 = k)).map (·.2) = some d → ∃ v, valV vs k = some v ∧ Rep K H d v
  | [], _, _, _, _, e => by cases e
  | (j, c) :: ds, _, k, d, h, e => by
    unfold Pairs at h
    obtain ⟨v, r, rfl, h1, h2⟩ := h
    rw [List.find?_cons] at e
    unfold valV
    rw [List.find?_cons]
    by_cases q : j = k
    · simp only [q, decide_true] at e ⊢
      cases e
      exact ⟨v, rfl, h1⟩
    · simp only [q, decide_false] at e ⊢
      exact look_val h2 e
theorem TPs.look {H : Hp} : ∀ {ds : List (List Key × D)} {xs : List (List Key × Addr × V)} {k : List Key} {d : D}, TPs K H ds xs → (ds.find? fun p => decide (p.1 = k)).map (·.2) = some d → ∃ v, (xs.find? fun x => decide (x.1 = k)).map (fun x => x.2.2) = some v ∧ Rep K H d v
  | [], _, _, _, _, e => by cases e
  | (j, c) :: ds, _, k, d, h, e => by
    unfold TPs at h
    obtain ⟨b, v, r, rfl, h0, h1, h2⟩ := h
    rw [List.find?_cons] at e ⊢
    by_cases q : j = k
    · simp only [q, decide_true] at e ⊢
      cases e
      exact ⟨v, rfl, h1⟩
    · simp only [q, decide_false] at e ⊢
      exact h2.look e
def atL {κ : Type} [DecidableEq κ] (kvs : List (κ × D)) (k : κ) : Option D := (kvs.find? fun p => decide (p.1 = k)).map (·.2)
def getX (P : Program) (w : World) : D → D → Mp → DQ → Prop := fun x y M Q => ∃ p, x = .ref p ∧
  ((∃ kvs k d, M p = some (.dK kvs) ∧ keyD y = some k ∧ atL kvs k = some d ∧ Q d M) ∨ ∃ kvs ds k d, M p = some (.dX P w kvs) ∧ y = .tup ds ∧ keysD ds = some k ∧ atL kvs k = some d ∧ Q d M)
theorem ix_getX (P : Program) (w : World) (eP : P = X.prog) (ew : w = X.w) (hu : Ru X) : IxR X (rD X.K (getX P w)) := fun value slice pins s σ H x y v u Q I rx ry h hs => by
  subst eP ew
  have hu1 : X.A.units + 1 < cLine := by have := hu; omega
  obtain ⟨dx, dy, M, F, Q0, r1, r2, m, fr, ⟨p, rfl, h⟩, g⟩ := h
  cases r1
  cases (show v = Value.ref p from rx)
  rcases h with ⟨kvs, k, d, e, ek, el, hq⟩ | ⟨kvs, ds, k, d, e, rfl, ek, el, hq⟩
  · obtain ⟨vs, e1, ps⟩ := m _ _ e
    obtain rfl := keyD_rep ek r2
    obtain ⟨v, ev, rv⟩ := look_val ps el
    obtain ⟨z, hd, us, rel, dd⟩ := dk_of I.hok e1
    exact tail_any dd.mapOf.typeIs slot_dict_getitem.lookup (d_getItem (A := X.A) hu1 I (by rw [← ev]; exact .k e1) ry fun w' s' I' rw' => ⟨v, H, I', rw', g d M v H hq (.refl _) fr.frm m rv⟩) hs
  · obtain ⟨xs, e1, ps⟩ := m _ _ e
    unfold Rep at r2
    obtain ⟨b, vs, rfl, sq, rs⟩ := r2
    have evs := keysD_reps ek rs
    subst evs
    cases (show u = Value.ref b from ry)
    obtain ⟨hsm, ys, f, dd⟩ := td_dict I e1 ps.sq
    obtain ⟨v, ev, rv⟩ := ps.look el
    obtain ⟨q, e2, rq⟩ := (at_keys f k).1 v ev
    exact tail_any dd.typeIs slot_dict_getitem.lookup (wpAny_getItem_heap (tupleKind_room_in1 hu1) (key_sq I sq) dd e2 ⟨v, H, I.tok _, rq, g d M v H hq (.refl _) fr.frm m rv⟩) hs
theorem pd_getX {P : Program} {w : World} (eP : P = X.prog) (ew : w = X.w) (hu : Ru X) (ha : PE X a (tD X.K wa)) (hb : PE X b (tD X.K wb)) (hs : PlainIx b) : PE X (.Subscript a b pos) (tD X.K (w2 (getX P w) wa wb)) :=
  (pe_ix (ix_getX P w eP ew hu) ha hb hs).imp fun _ _ _ h => two h
end
end DL
namespace DL
open PySem PySem.Spec PyProof.Rows L2
variable {K : PySem.W.Frag}
def putL {κ : Type} [DecidableEq κ] (kvs : List (κ × D)) (k : κ) (d : D) : List (κ × D) := if hasK kvs k = true then kvs.map (fun p => if p.1 = k then (p.1, d) else p) else kvs ++ [(k, d)]
def putX (xs : List (List Key × Addr × V)) (k : List Key) (b : Addr) (v : V) : List (List Key × Addr × V) := if hasK xs k = true then xs.map (fun p => if p.1 = k then (p.1, p.2.1, v) else p) else xs ++ [(k, b, v)]
def dstore (z y : D) : MO → Option MO
  | .dK kvs => (keyD z).map fun k => .dK (putL kvs k y)
  | .dX P w kvs => match z with
    | .tup ds => (keysD ds).map fun k => .dX P w (putL kvs k y)
    | _ => none
  | _ => none
theorem TPs.mapK {H : Hp} {k : List Key} {d : D} {v : V} (hv : Rep K H d v) : ∀ {ds : List (List Key × D)} {xs : List (List Key × Addr × V)}, TPs K H ds xs → TPs K H (ds.map fun p => if p.1 = k then (p.1, d) else p) (xs.map fun p => if p.1 = k then (p.1, p.2.1, v) else p)
  | [], _, h => by unfold TPs at h; subst h; exact rfl
  | (j, c) :: ds, _, h => by
    unfold TPs at h
    obtain ⟨b, u, r, rfl, h0, h1, h2⟩ := h
    have ih := TPs.mapK (k := k) hv h2
    rw [List.map_cons, List.map_cons]
    by_cases e : j = k
    · subst e
      simp only [if_true]
      exact ⟨b, v, _, rfl, h0, hv, ih⟩
    · simp only [e, if_false]
      exact ⟨b, u, _, rfl, h0, h1, ih⟩
theorem putK_hasK {κ : Type} [DecidableEq κ] (vs : List (κ × V)) (k : κ) (v : V) : putK vs k v = if hasK vs k = true then vs.map (fun kv => if kv.1 = k then (kv.1, v) else kv) else vs ++ [(k, v)] := rfl
theorem Pairs.putD {κ : Type} [DecidableEq κ] {H : Hp} {k : κ} {d : D} {v : V} {ds : List (κ × D)} {vs : List (κ × V)} (h : Pairs K H ds vs) (hv : Rep K H d v) : Pairs K H (putL ds k d) (putK vs k v) := by
  rw [putK_hasK]
  unfold putL
  rw [hasK_keys h.keys k]
  split
  · exact h.mapK hv
  · exact Pairs.more hv h
theorem TPs.put {H : Hp} {k : List Key} {b : Addr} {d : D} {v : V} {ds : List (List Key × D)} {xs : List (List Key × Addr × V)} (h : TPs K H ds xs) (hb : SqT K H b (k.map kV)) (hv : Rep K H d v) : TPs K H (putL ds k d) (putX xs k b v) := by
  unfold putL putX
  rw [hasK_keys h.keys k]
  split
  · exact h.mapK hv
  · exact TPs.more hb hv h
theorem paired_put {xs : List (List Key × Addr × V)} {ys : List (List Key × Addr × Value)} {k : List Key} {b : Addr} {v : V} {u : Value} (rv : RelV v u) (f : Paired (fun (p : List Key × Addr × V) (q : List Key × Addr × Value) => p.1 = q.1 ∧ p.2.1 = q.2.1 ∧ RelV p.2.2 q.2.2) xs ys) :
    Paired (fun (p : List Key × Addr × V) (q : List Key × Addr × Value) => p.1 = q.1 ∧ p.2.1 = q.2.1 ∧ RelV p.2.2 q.2.2) (putX xs k b v) (storedH ys k b u) := by
  unfold putX storedH
  rw [(at_keys f k).2]
  split
  · induction f with
    | nil => exact .nil
    | @cons x y xs ys h t ih =>
      rw [List.map_cons, List.map_cons]
      refine .cons ?_ (by
        rename_i hh
        cases q : hasK xs k with
        | true => exact ih q
        | false =>
          have e : ∀ p ∈ xs, ¬ p.1 = k := fun p hp e => by
            have : hasK xs k = true := hasK_iff.mpr (e ▸ List.mem_map_of_mem hp)
            rw [q] at this; cases this
          clear ih hh
          induction t with
          | nil => exact .nil
          | @cons x2 y2 xs ys h2 t2 ih2 =>
            have n1 : ¬ x2.1 = k := e x2 List.mem_cons_self
            have n2 : ¬ y2.1 = k := h2.1 ▸ n1
            have q2 : hasK xs k = false := by
              cases q3 : hasK xs k with
              | false => rfl
              | true => unfold hasK at q q3; rw [List.any_cons, q3] at q; simp at q
            rw [List.map_cons, List.map_cons]
            refine .cons ?_ (ih2 q2 fun p hp => e p (List.mem_cons_of_mem _ hp))
            unfold putAt
            simp only [n1, n2, if_false]
            exact h2)
      unfold putAt
      by_cases e : x.1 = k
      · have e' : y.1 = k := h.1 ▸ e
        simp only [e, e', if_true]
        exact ⟨trivial, h.2.1, rv⟩
      · have e' : ¬ y.1 = k := h.1 ▸ e
        simp only [e, e', if_false]
        exact h
  · exact f.snoc ⟨rfl, rfl, rv⟩
section
variable {X : Cx} {a b i : Expr} {wa wb wi : WE} {pos : Pos}
def DcK.PtS (K : PySem.W.Frag) : DcK → Addr → V → V → Hp → Hp → Prop
  | .k => fun D y z H H' => ∃ kvs k, y = kV k ∧ H D = some (.dK kvs) ∧ kvs.length < sizeLine ∧ H' = upd H D (.dK (putK kvs k z))
  | .t P w => fun D y z H H' => ∃ xs k b, y = .ref b ∧ H D = some (.ext (TD P w D xs)) ∧ SqT K H b (k.map kV) ∧ (∀ q ∈ xs, SqT K H q.2.1 (q.1.map kV)) ∧ xs.length < sizeLine ∧ H' = upd H D (.ext (TD P w D (putX xs k b z)))
def rSetX (K : PySem.W.Frag) (kd : DcK) : TSet := fun o i v H Q => ∃ p H', o = .ref p ∧ kd.PtS K p i v H H' ∧ Q H'
theorem set_X (kd : DcK) (okd : kd.ok X) (hu : Ru X) : PSet X (rSetX X.K kd) := fun pins s σ H o i v ov iv u Q I ro ri rv h => by
  have hu1 : X.A.units + 1 < cLine := by have := hu; omega
  obtain ⟨p, H', rfl, pt, q⟩ := h
  cases (show ov = Value.ref p from ro)
  cases kd with
  | k =>
    obtain ⟨kvs, k, rfl, e, hz, rfl⟩ := pt
    exact d_setItem hu1 I (.inl ⟨kvs, k, e, rfl, hz, rfl⟩) ri rv fun s' I' => ⟨_, I', q⟩
  | t P w =>
    obtain ⟨rfl, rfl⟩ := okd
    obtain ⟨xs, k, b, rfl, e, sq, hs, hz, rfl⟩ := pt
    cases (show iv = Value.ref b from ri)
    obtain ⟨hsm, ys, f, dd⟩ := td_dict I e hs
    obtain ⟨f1, f2, _⟩ := fit_keys f
    refine wpAny_setItem_heap (tupleKind_room_in1 hu1) (key_sq I sq) dd (fun h' dd' hs' => ⟨_, ?_, q⟩) (by rw [← f2]; exact Nat.le_of_lt hz)
    obtain ⟨q', es, ep, hq, h2, h3, h4, _, h5⟩ := dd'
    exact d_write I (by rw [e]; exact True.intro) hs' ⟨q', hq⟩ (td_ok ⟨hsm, _, paired_put rv f, q', es, ep, hq, h2, h3, h4, h5⟩)
def wSetK (kd : DcK) (wo wi wv : WE) : WS := fun D0 ρ M => wv ρ M fun y M1 => wo ρ M1 fun x M2 => wi ρ M2 fun z M3 => ∃ p o o', x = .ref p ∧ M3 p = some o ∧ kd.is o ∧ dlen o < sizeLine ∧ dstore z y o = some o' ∧ D0.nx ρ (up M3 p o')
theorem psd_setK (kd : DcK) (okd : kd.ok X) (hu : Ru X) {pos' : Pos} (ho : PE X a (tD X.K wa)) (hi : PE X i (tD X.K wi)) (hv : PE X b (tD X.K wb)) (hs : swapsWithSole [.Subscript a i pos'] b pos.line X.env = pure false) (hw : swappedStores [.Subscript a i pos'] b X.env = pure none) (hns : notSlice i = true) :
    PS X (.Assign [.Subscript a i pos'] b pos) (tDS X.K (wSetK kd wa wi wb)) := (ps_asg hv (pg_sub ho hi (set_X kd okd hu) (by intro v; cases i <;> first | rfl | cases hns)) hs hw rfl).imp fun D σ H => by
  rintro ⟨ρ, M, F, D0, s, q, g⟩
  refine ⟨ρ, M, F, _, s, q, fun y M1 v H1 q1 t1 f1 r1 p1 => ⟨ρ, M1, F, _, s.next t1 f1 r1, q1, fun x M2 u H2 q2 t2 f2 r2 p2 => ⟨ρ, M2, F, _, (s.next t1 f1 r1).next t2 f2 r2, q2, fun z M3 w H3 q3 t3 f3 r3 p3 => ?_⟩⟩⟩
  obtain ⟨p, o, o', rfl, e, ko, hz, es, q3⟩ := q3
  cases p2
  have p1' := p1.stay (t2.trans t3)
  have eO := r3 _ _ e
  have fr3 := ((s.fr.next f1).next f2).next f3
  have key : ∃ u, kd.PtS X.K p w v H3 (upd H3 p u) ∧ RepO X.K (upd H3 p u) p o' := by
    have nt := eO.notup (DcK.nc ko)
    have ts : ∀ u, TupS X.K H3 (upd H3 p u) := fun u => .at_ nt
    cases kd with
    | k =>
      obtain ⟨kvs, rfl⟩ := ko
      obtain ⟨vs, e1, ps⟩ := eO
      cases ek : keyD z with
      | none => simp only [dstore, ek] at es; cases es
      | some k =>
        simp only [dstore, ek] at es
        cases es
        obtain rfl := keyD_rep ek p3
        exact ⟨_, ⟨vs, k, rfl, e1, by rw [← ps.length]; exact hz, rfl⟩, _, upd_same, (ps.putD p1').stay (ts _)⟩
    | t P w' =>
      obtain ⟨kvs, rfl⟩ := ko
      obtain ⟨xs, e1, ps⟩ := eO
      cases z <;> (try (simp only [dstore] at es; cases es; done))
      rename_i ds
      cases ek : keysD ds with
      | none => simp only [dstore, ek] at es; cases es
      | some k =>
        simp only [dstore, ek] at es
        cases es
        unfold Rep at p3
        obtain ⟨b, vs, rfl, sq, rs⟩ := p3
        have evs := keysD_reps ek rs
        subst evs
        have el : kvs.length = xs.length := by have := congrArg List.length ps.keys; simpa using this
        exact ⟨_, ⟨xs, k, b, rfl, e1, sq, ps.sq, by rw [← el]; exact hz, rfl⟩, _, upd_same, (ps.put sq p1').stay (ts _)⟩
  obtain ⟨u', pt, rO⟩ := key
  have tt : TupS X.K H3 (upd H3 p u') := .at_ (eO.notup (DcK.nc ko))
  have ff := fr3.put (u := u') e o'
  refine ⟨p, _, rfl, pt, ?_⟩
  exact g.nx ρ _ σ _ q3 (((t1.trans t2).trans t3).trans tt) (((f1.trans f2).trans f3).trans ff) ((((s.next t1 f1 r1).next t2 f2 r2).next t3 f3 r3).next tt ff (r3.put e rO (DcK.nc ko)))
end
end DL
namespace DL
open PySem PySem.Spec PyProof.Rows L2
variable {K : PySem.W.Frag}
mutual
theorem reads_in {h : Heap} : ∀ {v : Value} {d : PyData} {as : List Addr}, Reads h v d as → ∀ b ∈ as, ∃ o, h.get? b = some o
  | _, _, _, .none, _, hb => by cases hb
  | _, _, _, .bool _, _, hb => by cases hb
  | _, _, _, .int _ _, _, hb => by cases hb
  | _, _, _, .str _ _, _, hb => by cases hb
  | _, _, _, .list h1 h2 h3 h4, b, hb => by
    rcases List.mem_cons.mp hb with rfl | hb
    · exact ⟨_, h1⟩
    · exact readsAll_in h4 b hb
  | _, _, _, .tuple h1 h2 h3 h4, b, hb => readsAll_in h4 b hb
  | _, _, _, .dict h1 h2 h3 h4 h5, b, hb => by
    rw [List.cons_append] at hb
    rcases List.mem_cons.mp hb with rfl | hb
    · exact ⟨_, h1⟩
    · rcases List.mem_append.mp hb with hb | hb
      · exact readsAll_in h4 b hb
      · exact readsAll_in h5 b hb
theorem readsAll_in {h : Heap} : ∀ {vs : List Value} {ds : List PyData} {as : List Addr}, ReadsAll h vs ds as → ∀ b ∈ as, ∃ o, h.get? b = some o
  | _, _, _, .nil, _, hb => by cases hb
  | _, _, _, .cons h1 h2, b, hb => by
    rcases List.mem_append.mp hb with hb | hb
    · exact reads_in h1 b hb
    · exact readsAll_in h2 b hb
end
theorem plain_keys : ∀ ks : List Key, plains (ks.map kD) = true
  | [] => rfl
  | k :: ks => by
    show (plain (kD k) && plains (ks.map kD)) = true
    rw [plain_keys ks]
    cases k <;> rfl
theorem plains_keyT : ∀ kvs : List (List Key × D), plains (kvs.map fun p => keyT p.1) = true
  | [] => rfl
  | p :: kvs => by
    show (plain (keyT p.1) && plains (kvs.map fun p => keyT p.1)) = true
    rw [plains_keyT kvs]
    show (plains (p.1.map kD) && true) = true
    rw [plain_keys]; rfl
theorem vals_keys {xs : List (List Key × Addr × V)} {ys : List (List Key × Addr × Value)} (f : Paired (fun (p : List Key × Addr × V) (q : List Key × Addr × Value) => p.1 = q.1 ∧ p.2.1 = q.2.1 ∧ RelV p.2.2 q.2.2) xs ys) : Vals (xs.map fun x => V.ref x.2.1) (ys.map fun x => Value.ref x.2.1) := by
  induction f with
  | nil => exact .nil
  | cons h t ih => exact .cons (by show _ = _; rw [h.2.1]) ih
section
variable {X : Cx}
def sortXS : Spec := fun ds M Q => ∃ a P w kvs, ds = [.ref a] ∧ M a = some (.dX P w kvs) ∧ PySem.W.AllAlike ((kvs.map fun p => keyT p.1).map py) ∧ (∀ p ∈ kvs, p.1 ≠ []) ∧ (∀ p ∈ kvs, (py (keyT p.1)).depth ≤ 60) ∧ kvs.length ≤ sizeLine ∧
  ∀ p, M p = none → Q (.ref p) (up M p (.lst (sortD (kvs.map fun p => keyT p.1))))
theorem cd_sortX (hc : X.calm = true) (hu : Ru X) : CallR X (.builtin "sorted") (rDL X.K sortXS) := fun pins s σ H xs us Q I rv hh => by
  obtain ⟨ds, M, F, Q0, r1, m, fr, ⟨a, P, w, kvs, rfl, e, al, ne, dp, zl, q⟩, g⟩ := hh
  obtain ⟨v, rfl, rr⟩ := r1.one
  cases rr
  obtain ⟨u, rfl, ru⟩ := vals1 rv
  obtain rfl : u = Value.ref a := ru
  obtain ⟨xs, e1, ps⟩ := m _ _ e
  obtain ⟨⟨hsm, ys, f, o, es, ep, h1, h2, h3, h4, h5⟩, _, _⟩ := (show ObjOk X.prog X.w H s.heap a (.ext (TD P w a xs)) from I.hok a _ e1)
  obtain ⟨_, fl, _⟩ := fit_keys f
  have el : kvs.length = xs.length := by have := congrArg List.length ps.keys; simpa using this
  have l1 : es.size = ys.length := size_of_entries h4
  refine Calls.call_function_entry PyProof.Rows.kind_sorted PyProof.Rows.plain_sorted PyProof.Rows.entry_sorted (PyProof.Rows.args_sorted1 _) ?_
  unfold Builtin.«sorted»
  refine wpAny_bind (m := checkCount "sorted" 1 1 _) (wpAny_pure ?_)
  refine wpAny_bind (PySem.W.kdu_collect (A := X.A.in1) (kdl_raw hsm h2 h3) (I.ok.hd hc) h1 (by omega) fun h' tk acc hk hacc => ?_)
  have hal : acc.toList.length = ys.length := by rw [Array.length_toList, hacc.1]; exact l1
  have ea : acc.toList = ys.map fun x => Value.ref x.2.1 := by
    apply List.ext_getElem?
    intro j
    rw [List.getElem?_map]
    cases hj : acc.toList[j]? with
    | none =>
      have z1 := List.getElem?_eq_none_iff.mp hj
      rw [List.getElem?_eq_none (by omega)]
      rfl
    | some v =>
      obtain ⟨en, hen, hv⟩ := hacc.2 j v (by rw [← Array.getElem?_toList]; exact hj)
      have qe := entry_at h4 j
      rw [hen] at qe
      cases hb : ys[j]? with
      | none => rw [hb] at qe; cases qe
      | some b =>
        rw [hb] at qe
        have e2 : en = entryOfKey (tupleKind (mixKind P w)) b := Option.some.inj qe
        rw [hv, e2]
        rfl
  have rvs : Vals (xs.map fun x => V.ref x.2.1) acc.toList := by rw [ea]; exact vals_keys f
  have I1 : Inv X pins σ H { s with heap := h', toks := tk } := I.kept hk
  obtain ⟨w1, w2⟩ := each_of I1 ps.keyReps rvs (plains_keyT kvs)
  have hz : acc.toList.length ≤ sizeLine := by omega
  refine wpAny_bind (wpAny_newList ?_ hz)
  have hoL : (h'.push (seqObj "list" acc.toList.toArray 0)).get? h'.objs.size = some (seqObj "list" acc.toList.toArray 0) := Heap.get?_push_size _ rfl
  show wpAny _ _ _ _ _ { s with heap := h'.push (seqObj "list" acc.toList.toArray 0), toks := tk }
  have er : PySem.W.EachIs (fun (v : Value) (d : D) => ∃ as, Reads (h'.push (seqObj "list" acc.toList.toArray 0)) v (py d) as ∧ h'.objs.size ∉ as) acc.toList (kvs.map fun p => keyT p.1) := w2.mono fun v d h => by
    obtain ⟨as, r⟩ := h
    refine ⟨as, PyProof.Rows.Reads.keeps (fun b o e => Heap.get?_push_of_some _ e) r, fun hm => ?_⟩
    obtain ⟨ob, eb⟩ := reads_in r _ hm
    exact absurd (Heap.lt_size eb) (Nat.lt_irrefl _)
  have hk0 : PySem.W.Sortable ((kvs.map fun p => keyT p.1).map py) := .inl fun d hd => by
    obtain ⟨x, hx, rfl⟩ := List.mem_map.mp hd
    obtain ⟨p, hp, rfl⟩ := List.mem_map.mp hx
    have := ne p hp
    cases hk : p.1 with
    | nil => exact absurd hk this
    | cons k ks => exact ⟨py (kD k), pys (ks.map kD), by simp only [keyT, List.map_cons, py, pys]⟩
  have hu0 : ∀ b, b ∈ (kvs.map fun p => keyT p.1) → X.A.in1.units + 1 + (py b).depth < cLine := fun b hb => by
    obtain ⟨p, hp, rfl⟩ := List.mem_map.mp hb
    have := hu
    have := dp p hp
    show X.A.units + 1 + 1 + _ < cLine
    omega
  refine wpAny_bind (wpAny_holding (PySem.W.list_sort_data (s := { s with heap := h'.push (seqObj "list" acc.toList.toArray 0), toks := tk }) (R := fun (u : Value) (d : D) => ∃ v, RelV v u ∧ Rep X.K H d v) (enc := py) (bs := kvs.map fun p => keyT p.1) hoL w1 er al hk0 (by rw [List.length_map]; exact zl) hu0 fun out hlen ho => ?_))
  · obtain ⟨vs', y1, y2⟩ := of_each ho
    have hn : H h'.objs.size = none := I1.hok.fresh (Nat.le_refl _)
    obtain ⟨c, hc'⟩ := PyProof.Rows.sortedHeap_at (vs := acc.toList) (out := out.toArray) hoL
    refine wpAny_pure ⟨_, rfl, .ref h'.objs.size, upd H h'.objs.size (.lst vs'), I1.laid (t' := tk) (fun b u e => ?_) (Nat.le_refl _) ⟨by rw [y1.length, hlen, List.length_map]; exact zl, out, c, y1, hc'⟩, rfl, g _ _ _ _ (q _ (m.none hn)) (.new hn) (fr.new hn _) (m.new hn ⟨vs', upd_same, y2.stay (.new hn)⟩) rfl⟩
    have hb : b < h'.objs.size := Heap.lt_size e
    rw [PyProof.Rows.sortedHeap_old (Nat.ne_of_lt hb) (by rw [size_push']; exact Nat.lt_succ_of_lt hb)]
    exact Heap.get?_push_of_some _ e
structure MethM (k : Co) (C : Addr) (m : Str) (S : Spec) : Prop where
  cl : Cls k.K C
  ex : ∃ (n : Nat) (f : Addr) (fd : FuncData) (ps : List Str), FnOk k.prog k.w k.K k.mg k.base CX0 n f fd ps (spD k.K S) ∧ Room n k.A ∧ Binds k.K fd ps [] ∧ Meth k.K C m f
def wMeth (C : Addr) (m : Str) (S : Spec) (wo : WE) (u : WA) : WE := fun ρ M Q => wo ρ M fun x M1 => ∃ a fs, x = .ref a ∧ M1 a = some (.ins C fs) ∧ fs.lookup m = none ∧ u ρ M1 fun ds M2 => S (x :: ds) M2 Q
theorem meth_of {C : Addr} {m : Str} {S : Spec} {wo : WE} {u : WA} {σ : L2.St} {H : Hp} {Q : VK} (h : tD K (wMeth C m S wo u) σ H Q) : tMeth C m (spD K S) [] E0 (tD K wo) (tDA K u) σ H Q := by
  obtain ⟨ρ, M, F, Q0, s, q, g⟩ := h
  refine ⟨ρ, M, F, _, s, q, fun x M1 v H1 q1 t1 f1 r1 p1 => ?_⟩
  obtain ⟨a, fs, rfl, ea, hl, q1⟩ := q1
  obtain ⟨dx, vs, e1, ps⟩ := r1 _ _ ea
  refine ⟨a, dx, vs, p1, e1, ps.lookup_none hl, ρ, M1, F, _, s.next t1 f1 r1, q1, fun ds M2 us H2 q2 t2 f2 r2 p2 => ?_⟩
  show spD K S (v :: (us ++ [])) H2 Q E0
  rw [List.append_nil]
  exact ⟨_, M2, F, Q0, .cons (p1.stay t2) p2, r2, (s.fr.next f1).next f2, q2, (g.from t1 f1).from t2 f2⟩
theorem pd_meth {C : Addr} {m : Str} {S : Spec} {o e : Expr} {es : List Expr} {wo : WE} {u : WA} {apos pos : Pos} {pl : Sem Bool} (hM : MethM (co X) C m S) (ho : PE X o (tD X.K wo)) (ha : PA X (e :: es) (tDA X.K u)) (hs : (e :: es).all notStar = true)
    (ht : eval (.Call (.Attribute o m apos) (e :: es) [] pos) X.env = (do
      let ov ← eval o X.env
      standAt apos.atName
      let (f, first) ← holding [ov] (getMethod ov m pl)
      callWith pos f first (backTo pos (starEach (e :: es) X.env)) (backToKw pos (keywordEach [] X.env)))) :
    PE X (.Call (.Attribute o m apos) (e :: es) [] pos) (tD X.K (wMeth C m S wo u)) := by
  obtain ⟨n, f, fd, ps, F, hr, hb, hm⟩ := hM.ex
  have hs' := hs
  rw [List.all_cons, Bool.and_eq_true] at hs'
  exact (pe_meth ho hM.cl hm F hr hb .nil pass0 ha (star_of hs'.1 _ _) (back_any hs'.2) ht).imp fun _ _ _ h => meth_of h
theorem ev_meth {o : Expr} (hb : plainBase o = true) {m : Str} {apos pos : Pos} {es : List Expr} {env : Env} (hf : methodCallForm (es.length + ([] : List Keyword).length) (backTo pos (starEach es env)) (backToKw pos (keywordEach [] env)) = true) (hline : (apos.endLine == pos.line) = true) : eval (.Call (.Attribute o m apos) es [] pos) env = (do
      let ov ← eval o env
      standAt apos.atName
      let (f, first) ← holding [ov] (getMethod ov m (do return (← importBound o env).getD true))
      callWith pos f first (backTo pos (starEach es env)) (backToKw pos (keywordEach [] env))) := by
  rw [arm_eval_Call, base_plain hb]
  unfold methodCall methodCallPos calleeOf
  rw [hf, hline]
  rfl
theorem form_of {env : Env} {pos : Pos} {es : List Expr} (hs : es.all notStar = true) (hl : es.length < 30) : methodCallForm (es.length + ([] : List Keyword).length) (backTo pos (starEach es env)) (backToKw pos (keywordEach [] env)) = true := by
  have e1 : (backTo pos (starEach es env)).all (fun x => !x.1) = true := by
    have := back_any (env := env) (pos := pos) hs
    rw [List.all_eq_true]
    intro x hx
    rw [List.any_eq_false] at this
    have := this x hx
    simpa using this
  unfold methodCallForm
  rw [e1]
  have e2 : decide (es.length + ([] : List Keyword).length + (if (backToKw pos (keywordEach [] env)).isEmpty then 0 else 1) < 30) = true := by
    apply decide_eq_true
    show es.length + 0 + 0 < 30
    omega
  rw [e2]
  rfl
theorem pd_methA {C : Addr} {m : Str} {S : Spec} {o e : Expr} {es : List Expr} {wo : WE} {u : WA} {apos pos : Pos} (hM : MethM (co X) C m S) (ho : PE X o (tD X.K wo)) (ha : PA X (e :: es) (tDA X.K u)) (hb : plainBase o = true) (hs : (e :: es).all notStar = true) (hl : (e :: es).length < 30) (hline : (apos.endLine == pos.line) = true) :
    PE X (.Call (.Attribute o m apos) (e :: es) [] pos) (tD X.K (wMeth C m S wo u)) := pd_meth hM ho ha hs (ev_meth hb (form_of hs hl) hline)
theorem pd_meth0 {C : Addr} {m : Str} {S : Spec} {o : Expr} {wo : WE} {apos pos : Pos} (hM : MethM (co X) C m S) (ho : PE X o (tD X.K wo)) (hb : plainBase o = true) (hline : (apos.endLine == pos.line) = true) :
    PE X (.Call (.Attribute o m apos) [] [] pos) (tD X.K (wMeth C m S wo wNil)) := by
  obtain ⟨n, f, fd, ps, F, hr, hb', hm⟩ := hM.ex
  refine (pe_meth0 ho hM.cl hm F hr hb' .nil pass0 (ev_meth hb (form_of rfl (by decide)) hline)).imp fun σ H Q h => ?_
  obtain ⟨ρ, M, F, Q0, s, q, g⟩ := h
  refine ⟨ρ, M, F, _, s, q, fun x M1 v H1 q1 t1 f1 r1 p1 => ?_⟩
  obtain ⟨a, fs, rfl, ea, hl, q1⟩ := q1
  obtain ⟨dx, vs, e1, ps⟩ := r1 _ _ ea
  refine ⟨a, dx, vs, p1, e1, ps.lookup_none hl, ?_⟩
  exact ⟨_, M1, F, Q0, .cons p1 .nil, r1, s.fr.next f1, q1, g.from t1 f1⟩
end
end DL
namespace DL
open PySem PySem.Spec PyProof.Rows L2
variable {K : PySem.W.Frag}
section
variable {X : Cx} {a b e : Expr} {wa wb : WE} {pos apos : Pos}
def popM : MSpec := fun x ds M Q => ∃ p xs y, x = .ref p ∧ ds = [] ∧ M p = some (.lst (xs ++ [y])) ∧ Q y (up M p (.lst xs))
theorem Reps.unsnoc {H : Hp} {ds : List D} {d : D} {vs : List V} (r : Reps K H (ds ++ [d]) vs) : ∃ us u, vs = us ++ [u] ∧ Reps K H ds us ∧ Rep K H d u := by
  have hl := r.length
  rw [List.length_append, List.length_singleton] at hl
  obtain ⟨u, e, ru⟩ := r.get (i := ds.length) (d := d) (by rw [List.getElem?_append_right (Nat.le_refl _), Nat.sub_self]; rfl)
  have h1 := r.take ds.length
  rw [List.take_left] at h1
  refine ⟨vs.take ds.length, u, ?_, h1, ru⟩
  apply List.ext_getElem?
  intro i
  by_cases hi : i < ds.length
  · rw [List.getElem?_append_left (by rw [List.length_take]; omega), List.getElem?_take_of_lt hi]
  · rw [List.getElem?_append_right (by rw [List.length_take]; omega), List.length_take]
    by_cases h2 : i = ds.length
    · subst h2
      rw [e, show ds.length - min ds.length vs.length = 0 by omega]
      rfl
    · rw [List.getElem?_eq_none (by omega), List.getElem?_eq_none (by rw [List.length_singleton]; omega)]
theorem md_pop : MtR X "list.pop" (rDM X.K popM) := MtR.lift (r := rPop) mt_pop fun d ds M F H Q0 Q v vs r0 r1 m fr h g => by
  obtain ⟨p, xs, y, rfl, rfl, e, q⟩ := h
  cases r0
  have hv : vs = [] := by unfold Reps at r1; exact r1
  subst hv
  obtain ⟨ws, e1, p1⟩ := m _ _ e
  obtain ⟨us, u, rfl, p2, ru⟩ := p1.unsnoc
  refine ⟨p, _, u, rfl, rfl, e1, ?_, ?_⟩
  · rw [List.length_append, List.length_singleton, Nat.add_sub_cancel, List.getElem?_append_right (Nat.le_refl _), Nat.sub_self]; rfl
  · rw [List.dropLast_concat]
    exact g _ _ _ _ q (.lst e1) (fr.put e _) (m.put e ⟨_, upd_same, p2.stay (.lst e1)⟩) (ru.stay (.lst e1))
theorem pd_pop (ho : PE X a (tD X.K wa)) (hb : plainBase a = true) (hline : (apos.endLine == pos.line) = true) : PE X (.Call (.Attribute a "pop" apos) [] [] pos) (tD X.K (wBm "list" popM wa wNil)) :=
  pd_bm0 PySem.F.plainAttrs_list PySem.F.slot_list_pop PySem.F.type_list_pop md_pop ho hb hline
def dropL {κ : Type} [DecidableEq κ] {β : Type} (kvs : List (κ × β)) (k : κ) : List (κ × β) := kvs.filter fun p => decide (p.1 ≠ k)
theorem TPs.dropK {H : Hp} {k : List Key} : ∀ {ds : List (List Key × D)} {xs : List (List Key × Addr × V)}, TPs K H ds xs → TPs K H (dropL ds k) (dropL xs k)
  | [], _, h => by unfold TPs at h; subst h; exact rfl
  | (j, c) :: ds, _, h => by
    unfold TPs at h
    obtain ⟨b, u, r, rfl, h0, h1, h2⟩ := h
    have ih := TPs.dropK (k := k) h2
    unfold dropL at ih ⊢
    rw [List.filter_cons, List.filter_cons]
    by_cases e : j = k
    · subst e
      simp only [ne_eq, not_true_eq_false, decide_false, Bool.false_eq_true, if_false]
      exact ih
    · simp only [ne_eq, e, not_false_eq_true, decide_true, if_true]
      exact ⟨b, u, _, rfl, h0, h1, ih⟩
theorem paired_drop {xs : List (List Key × Addr × V)} {ys : List (List Key × Addr × Value)} {k : List Key} (f : Paired (fun (p : List Key × Addr × V) (q : List Key × Addr × Value) => p.1 = q.1 ∧ p.2.1 = q.2.1 ∧ RelV p.2.2 q.2.2) xs ys) :
    Paired (fun (p : List Key × Addr × V) (q : List Key × Addr × Value) => p.1 = q.1 ∧ p.2.1 = q.2.1 ∧ RelV p.2.2 q.2.2) (dropL xs k) (withoutH ys k) := by
  induction f with
  | nil => exact .nil
  | @cons x y xs ys h t ih =>
    unfold dropL withoutH at ih ⊢
    rw [List.filter_cons, List.filter_cons]
    by_cases e : x.1 = k
    · have e' : y.1 = k := h.1 ▸ e
      simp only [ne_eq, e, e', not_true_eq_false, decide_false, Bool.false_eq_true, if_false]
      exact ih
    · have e' : ¬ y.1 = k := h.1 ▸ e
      simp only [ne_eq, e, e', not_false_eq_true, decide_true, if_true]
      exact .cons h ih
def popX (P : Program) (w : World) : D → D → Mp → DQ → Prop := fun x y M Q => ∃ p kvs ds k d, x = .ref p ∧ M p = some (.dX P w kvs) ∧ y = .tup ds ∧ keysD ds = some k ∧ atL kvs k = some d ∧ kvs.length ≤ sizeLine ∧ Q d (up M p (.dX P w (dropL kvs k)))
def wPopX (P : Program) (w : World) (wa wb : WE) : WE := fun ρ M Q => wa ρ M fun x M1 => (∃ p kvs, x = .ref p ∧ M1 p = some (.dX P w kvs)) ∧ wb ρ M1 fun y M2 => popX P w x y M2 Q
theorem pd_popX {P : Program} {w : World} (eP : P = X.prog) (ew : w = X.w) (hu : Ru X) (ho : PE X a (tD X.K wa)) (hb : PE X b (tD X.K wb)) (hba : plainBase a = true) (hs : notStar b = true) (hline : (apos.endLine == pos.line) = true) :
    PE X (.Call (.Attribute a "pop" apos) [b] [] pos) (tD X.K (wPopX P w wa wb)) := ⟨fun pins s σ H Q I h => by
  subst eP ew
  have hu1 : X.A.units + 1 < cLine := by have := hu; omega
  obtain ⟨ρ, M, F, Q0, st, q, g⟩ := h
  have hss : ([b] : List Expr).all notStar = true := by rw [List.all_cons, hs]; rfl
  refine wpAny_Call_method_late (base_plain hba _ _ _) (form_of hss (by show 1 < 30; decide)) hline rfl (thn (ho.run pins s σ H (fun v H1 => ∃ d1 M1, ((∃ p kvs, d1 = .ref p ∧ M1 p = some (.dX X.prog X.w kvs)) ∧ wb ρ M1 fun y M2 => popX X.prog X.w d1 y M2 Q0) ∧ TupS X.K H H1 ∧ Frm F H H1 M1 ∧ RepM X.K H1 M1 ∧ Rep X.K H1 d1 v) I ⟨ρ, M, F, _, st, q, fun x M1 v H1 q1 t1 f1 r1 p1 => ⟨x, M1, q1, t1, f1, r1, p1⟩⟩) fun v s1 hh => ?_)
  obtain ⟨x, H1, I1, rx, d1, M1, ⟨⟨p, kvs, e1, e2⟩, q1⟩, t1, f1, r1, p1⟩ := hh
  subst e1
  cases p1
  cases (show v = Value.ref p from rx)
  obtain ⟨xs, ex, ps⟩ := r1 _ _ e2
  obtain ⟨hsm, ys, f, dd⟩ := td_dict I1 ex ps.sq
  have ty := dd.typeIs
  refine ⟨"dict", "dict.pop", PySem.F.plainAttrs_dict, PySem.F.slot_dict_pop, PySem.F.type_dict_pop, ty, fun a' ea => ?_, ?_⟩
  · cases ea
    obtain ⟨o, es, ep, ho', hx, _⟩ := dd
    exact ⟨o, ho', hx.2.1⟩
  · have hA := (pa_cons hb pa_nil (star_of hs _ _)).run pos pins s1 σ H1 (fun vs H2 => ∃ y M2 v2, vs = [v2] ∧ popX X.prog X.w (.ref p) y M2 Q0 ∧ TupS X.K H1 H2 ∧ Frm F H1 H2 M2 ∧ RepM X.K H2 M2 ∧ Rep X.K H2 y v2) I1 ⟨ρ, M1, F, _, st.next t1 f1 r1, q1, fun y M2 v2 H2 q2 t2 f2 r2 p2 => ⟨y, M2, v2, rfl, q2, t2, f2, r2, p2⟩⟩
    rw [star_of hs _ _] at hA ⊢
    refine Calls.callWith_builtin (by rfl) (Calls.evalArgs_plain ?_)
    refine thn hA fun us s2 ⟨vs, H2, I2, r2', y, M2, v2, ev, q2, t2, f2, r2, p2⟩ => ?_
    subst ev
    obtain ⟨u, rfl, ru⟩ := Vals.one r2'
    obtain ⟨p', kvs2, ds, k, d, e3, e4, rfl, ek, el, hz, q2⟩ := q2
    cases e3
    obtain ⟨xs2, ex2, ps2⟩ := r2 _ _ e4
    unfold Rep at p2
    obtain ⟨bb, vs, rfl, sq, rs⟩ := p2
    have evs := keysD_reps ek rs
    subst evs
    cases (show u = Value.ref bb from ru)
    obtain ⟨hsm2, ys2, g2, dd2⟩ := td_dict I2 ex2 ps2.sq
    obtain ⟨w0, ew, rw⟩ := ps2.look el
    obtain ⟨pr, e5, rq⟩ := (at_keys g2 k).1 w0 ew
    have eln : kvs2.length = xs2.length := by have := congrArg List.length ps2.keys; simpa using this
    have el2 : xs2.length = ys2.length := (fit_keys g2).2.1
    refine call_pop_heap (.inl rfl) (PySem.F.args_dict_pop_2 _ _) (tupleKind_room_in1 hu1) (key_sq I2 sq) hsm2 dd2 e5 (fun h' dd' hs' => ?_) (by rw [← el2, ← eln]; exact hz)
    obtain ⟨o', es, ep, hq, h2, h3, h4, _, h5⟩ := dd'
    have nt := (r2 _ _ e4).notup rfl
    have tt : TupS X.K H2 (upd H2 p (.ext (TD X.prog X.w p (dropL xs2 k)))) := .at_ nt
    have ff := ((st.fr.next f1).next f2).put (u := .ext (TD X.prog X.w p (dropL xs2 k))) e4 (.dX X.prog X.w (dropL kvs2 k))
    refine ⟨w0, _, d_write I2 (by rw [ex2]; exact True.intro) hs' ⟨o', hq⟩ (td_ok ⟨hsm2, _, paired_drop g2, o', es, ep, hq, h2, h3, h4, h5⟩), rq, ?_⟩
    exact g _ _ _ _ q2 ((t1.trans t2).trans tt) ((f1.trans f2).trans ff) (r2.put e4 ⟨_, upd_same, (ps2.dropK).stay tt⟩) (rw.stay tt)⟩
def rgD (t : Bool) : D → Mp → DQ → Prop := fun x M Q => ∃ n, x = .int n ∧ 0 ≤ n ∧ n ≤ 16777216 ∧ (if t = true then Q (.tup (rngI 0 n)) M else ∀ p, M p = none → Q (.ref p) (up M p (.lst (rngI 0 n))))
theorem rng_reps {H : Hp} (n : Int) : Reps K H (rngI 0 n) (rgV 0 n) := by
  have h := Reps.ints (K := K) (H := H) ((List.range (n - 0).toNat).map fun i => 0 + ((i : Nat) : Int))
  rw [List.map_map, List.map_map] at h
  exact h
theorem pd_rgC (t : Bool) {p1 p2 pos1 : Pos} (hc : X.calm = true) (hg : Gl X (if t = true then "tuple" else "list")) (hm : X.mg (if t = true then "tuple" else "list") = none) (hgr : Gl X "range") (hmr : X.mg "range" = none) (ha : PE X a (tD X.K wa)) (hs : notStar a = true) :
    PE X (.Call (.Name (if t = true then "tuple" else "list") p1) [.Call (.Name "range" p2) [a] [] pos1] [] pos) (tD X.K (w1 (rgD t) wa)) := by
  have hr := prg_1 (p := p2) (pos := pos1) hgr hmr ha (star_of hs _ _)
  cases t with
  | true =>
    refine (pe_tupRg (p := p1) (pos := pos) hc hg hm hr).imp fun σ H Q => ?_
    rintro ⟨ρ, M, F, Q0, s, q, g⟩
    refine ⟨ρ, M, F, _, s, q, fun x M1 v H1 q1 t1 f1 r1 p1 => ?_⟩
    obtain ⟨n, rfl, n0, n1, q1⟩ := q1
    rw [if_pos rfl] at q1
    cases p1
    refine ⟨n, rfl, .of_le (by omega) n1 (by omega) n0, fun p hp => ?_⟩
    exact g _ M1 _ _ q1 (t1.trans (.new hp)) (f1.trans ((s.fr.next f1).more hp)) (r1.more hp) (by unfold Rep; exact ⟨p, _, rfl, .of upd_same, rng_reps n⟩)
  | false =>
    refine (pe_listRg (p := p1) (pos := pos) hc hg hm hr).imp fun σ H Q => ?_
    rintro ⟨ρ, M, F, Q0, s, q, g⟩
    refine ⟨ρ, M, F, _, s, q, fun x M1 v H1 q1 t1 f1 r1 p1 => ?_⟩
    obtain ⟨n, rfl, n0, n1, q1⟩ := q1
    rw [if_neg Bool.false_ne_true] at q1
    cases p1
    refine ⟨n, rfl, .of_le (by omega) n1 (by omega) n0, fun p hp => ?_⟩
    exact g _ _ _ _ (q1 p (r1.none hp)) (t1.trans (.new hp)) (f1.trans ((s.fr.next f1).new hp _)) (r1.new hp ⟨_, upd_same, rng_reps n⟩) rfl
end
end DL
namespace DL
open PySem PySem.Spec PyProof.Rows L2
variable {K : PySem.W.Frag}
abbrev nset (w : World) : Obj := { cls := .type "set", dict := none, data := .set #[] 0 (.fresh 0 0 (!w.params.followText "set-order")) }
section
variable {P : Program} {w : World} {A : Around} {E : Value → Shared → Prop} {s : Shared}
theorem not_two {b x y : Addr} (h1 : b ≠ x) (h2 : b ≠ y) : b ∉ [x, y] := by simp [h1, h2]
theorem call_set_lstI {l : Addr} {vals : Array Value} (ns : List Int) {Q : Value → Shared → Prop} (hno : A.handled = none) (hlist : s.heap.IsList l vals) (hints : IntsAre vals.toList ns) (hfew : ns.length + 1 < scanBound)
    (out : ∀ (h2 : Heap) (tk2 c : Nat), SetR w h2 s.heap.objs.size (fun j => decide (j ∈ ns)) c → c ≤ ns.length → (∀ b o, s.heap.get? b = some o → h2.get? b = some o) → Q (.ref s.heap.objs.size) { s with heap := h2, toks := tk2 }) : wpAny (model P w) A (call (.type "set") [.ref l]) Q E s := by
  have esz : vals.size = ns.length := by have q := IntsAre.length hints; rwa [Array.length_toList] at q
  obtain ⟨cm, tm, mm⟩ := F.called_set.mro
  have md := F.called_set.made
  have sb := F.called_set.sub
  refine wpAny_call (codeAny_of_tree (show wpAny _ _ (callAny (.type "set") _) _ _ _ from ?_))
  refine wpAny_pure ⟨Code.quiet_builtin _ (by decide +kernel), codeAny_builtin F.entry_type_call ?gg⟩
  rw [Around.under_plain (weight_type_call_type "set" [.ref l] []) rfl]
  have n1 := F.called_set.notType
  have n2 := F.called_set.canCreate
  have n3 := F.typeCall_set_1 (.ref l)
  repeat (any_goals (first | assumption | wp_step))
  refine codeAny_mono (code_set_led1 (.ref l) (E := E) (Q₁ := fun ob t => ob = .ref s.heap.objs.size ∧ t = { s with heap := s.heap.push (nset w) }) ⟨rfl, rfl⟩) fun r t hr => ?_
  cases r with
  | error e => exact hr
  | ok fl =>
    cases fl with
    | ret ob =>
      obtain ⟨rfl, rfl⟩ := hr
      have gS : (s.heap.push (nset w)).get? s.heap.objs.size = some (nset w) := Heap.get?_push_size _ rfl
      have tS : Shared.TypeIs { s with heap := s.heap.push (nset w) } (.ref s.heap.objs.size) "set" := ⟨_, gS, rfl⟩
      have l1 := F.called_set.init.lookup
      have l2 := F.called_set.init.bind (.ref s.heap.objs.size)
      repeat (any_goals (first | assumption | wp_step))
      refine codeAny_mono (codeAny_call_builtin (R := wants (fun r t => r = .none ∧ ∃ h2 tk2 c, t = { s with heap := h2, toks := tk2 } ∧ SetR w h2 s.heap.objs.size (fun j => decide (j ∈ ns)) c ∧ c ≤ ns.length ∧ (∀ b o, s.heap.get? b = some o → h2.get? b = some o)) E) F.called_set.init.plain F.entry_set_init (check_set_init_1 tS ?_)) fun r2 t2 hr2 => ?_
      · obtain ⟨⟨oc, od, oda, osl⟩, ho, hc0, nl, hd0⟩ := hlist
        simp only at hc0 hd0
        subst hc0
        subst hd0
        have ho2 : (s.heap.push (nset w)).get? l = some { cls := .type "list", dict := od, data := .seq vals nl, slots := osl } := Heap.get?_push_of_some _ ho
        have s1 := F.sub_list_set
        have s2 := F.sub_list_frozenset
        have s3 : (Value.type "list" == Value.type "dict") = false := by decide
        have isl : (s.heap.push (nset w)).IsList l vals := ⟨_, ho2, rfl, nl, rfl⟩
        unfold Builtin.«set.__init__» noKeywords Builtin.Frozenset.updateFrom
        generalize gPI : pyIter = PI
        wp_walk
        subst gPI
        refine wpAny_pyIter_list isl (wpAny_bind (wpAny_runValue ?_))
        have lts : l < s.heap.objs.size := Heap.lt_size ho
        have zz : (s.heap.push (nset w)).objs.size = s.heap.objs.size + 1 := Heap.size_push ..
        have hno3 : A.in1.in1.in1.handled = none := by simp [hno]
        have nI : l ≠ (s.heap.push (nset w)).objs.size := by rw [zz]; exact Nat.ne_of_lt (Nat.lt_succ_of_lt lts)
        have nS : s.heap.objs.size ∉ [(s.heap.push (nset w)).objs.size, l] := not_two (by rw [zz]; exact Nat.ne_of_lt (Nat.lt_succ_self _)) (Nat.ne_of_gt lts)
        have vv : ∀ (i : Nat) (v : Value), vals[i]? = some v → ∃ k t, ns[i]? = some k ∧ v = .int k t := fun i v hv => by
          have il : i < ns.length := by rw [← esz]; exact (Array.getElem?_eq_some_iff.mp hv).1
          obtain ⟨t, e⟩ := IntsAre.int_at hints i v (by rw [Array.getElem?_toList]; exact hv)
          exact ⟨ns[i], t, List.getElem?_eq_getElem il, by rw [e, List.getD_eq_getElem?_getD, List.getElem?_eq_getElem il]; rfl⟩
        refine set_update_ints ((Walks.list hno3 _ l nI vals).toS) s.heap.objs.size nS ns esz hfew vv (vals.size - 0) 0 _ (by omega) (Nat.zero_le _) ⟨⟨_, Heap.get?_push_size _ rfl, rfl, rfl⟩, (isl.push _)⟩ ⟨0, Nat.le_refl 0, setR_new_at (Heap.get?_push_of_some _ gS)⟩ fun t3 c3 mv lc sr => ?_
        obtain ⟨h3, g3, d3, k3, o3⟩ := t3
        obtain rfl : g3 = s.gens := mv.gens
        obtain rfl : d3 = s.drawn := mv.drawn
        obtain rfl : o3 = s.os := mv.os
        refine (show wpAny _ _ _ _ _ _ from wpAny_pure (show wpAny _ _ (ret Value.none) _ _ _ from ?_))
        refine wpAny_pure ⟨rfl, h3, k3, c3, rfl, sr, by omega, fun b o e => mv.heap b o (not_two ?_ ?_) (Heap.get?_push_of_some _ (Heap.get?_push_of_some _ e))⟩
        · exact Nat.ne_of_lt (Heap.lt_size e)
        · rw [zz]; exact Nat.ne_of_lt (Nat.lt_succ_of_lt (Heap.lt_size e))
      · cases r2 with
        | error e => exact hr2
        | ok fl2 =>
          cases fl2 with
          | ret r =>
            obtain ⟨rfl, h2, tk2, c2, rfl, q1, q2, q3⟩ := hr2
            repeat (any_goals (first | assumption | wp_step))
            exact out _ _ _ q1 q2 q3
          | _ => exact hr2.elim
    | _ => exact hr.elim
end
theorem few_of : ∀ {N : Nat} {l : List Int}, l.Nodup → (∀ i ∈ l, 0 ≤ i ∧ i < (N : Int)) → l.length ≤ N
  | 0, l, hn, hb => by
    cases l with
    | nil => exact Nat.le_refl _
    | cons x l => have := hb x List.mem_cons_self; omega
  | N + 1, l, hn, hb => by
    have h1 := few_of (N := N) (l := l.erase (N : Int)) (hn.erase _) fun i hi => by
      obtain ⟨ne, hi⟩ := hn.mem_erase_iff.mp hi
      have := hb i hi
      omega
    rw [List.length_erase] at h1
    split at h1 <;> omega
def ssD : D → Mp → DQ → Prop := fun x M Q => ∃ ns, seqD M x (List.map D.int ns) ∧ ns.length ≤ 4000 ∧ (∀ i ∈ ns, 0 ≤ i ∧ i < 60) ∧ ∀ (out : List Int) (q : Addr), out.Pairwise (· < ·) → (∀ i : Int, i ∈ out ↔ i ∈ ns) → M q = none → Q (.ref q) (up M q (.lst (out.map D.int)))
section
variable {X : Cx} {a : Expr} {wa : WE} {ta : TE} {pos pos1 p1 p2 : Pos}
def tSS (K : PySem.W.Frag) (ta : TE) : TE := fun σ H Q => ta σ H fun x H1 => ∃ (l : Addr) (ns : List Int), x = V.ref l ∧ (SqL K H1 l (ns.map V.int) ∨ SqT K H1 l (ns.map V.int)) ∧ ns.length ≤ 4000 ∧ (∀ i ∈ ns, 0 ≤ i ∧ i < 60) ∧ ∀ (out : List Int) (p : Addr), out.Pairwise (· < ·) → (∀ i : Int, i ∈ out ↔ i ∈ ns) → H1 p = none → Q (.ref p) (upd H1 p (.lst (out.map V.int)))
theorem ss_end {pins : List (Addr × Obj)} {s : Shared} {σ : L2.St} {H : Hp} {a : Addr} {S : Int → Bool} {n : Nat} {Q : VK} (hc : X.calm = true) (I : L2.Inv X pins σ H s) (R : SetR X.w s.heap a S n) (h64 : n < 64)
    (q : ∀ (out : List Int) (p : Addr), out.Pairwise (· < ·) → (∀ i : Int, i ∈ out ↔ S i = true) → H p = none → Q (.ref p) (upd H p (.lst (out.map V.int)))) :
    wpAny (model X.prog X.w) X.A (call (.builtin "sorted") [.ref a]) (EP X pins σ Q) X.xe s := by
  refine sorted_set R (I.ok.hd hc) h64 fun s3 p ou cc os k3 g o hp hg3 hi hs hmm hll => ?_
  have hlen : (os.map V.int).length ≤ sizeLine := by rw [List.length_map, hll, sizeLine_eq]; omega
  have hn : H p = none := I.hok.fresh hp
  have J : L2.Inv X pins σ (upd H p (.lst (os.map V.int))) { s with heap := s3.heap, gens := s3.gens, drawn := s3.drawn, toks := s3.toks } :=
    I.call (ch := []) (Un.laid k3 hp hn) (I.hok.laid k3 hp ⟨hlen, ou.toList, cc, vals_of_ints hi, hg3⟩) (by rw [g]; exact I.bare) (fun _ z => nomatch z)
  have e : s3 = { s with heap := s3.heap, gens := s3.gens, drawn := s3.drawn, toks := s3.toks } := by
    cases s3; cases s; cases o; rfl
  rw [e]
  exact ⟨.ref p, _, J, rfl, q os p hs hmm hn⟩
theorem pe_ss (hc : X.calm = true) (hg : Gl X "sorted") (hm : X.mg "sorted" = none) (hg2 : Gl X "set") (hm2 : X.mg "set" = none) (ha : PE X a ta) (na : starEach [a] X.env = (false, eval a X.env) :: starEach [] X.env) :
    PE X (.Call (.Name "sorted" p1) [.Call (.Name "set" p2) [a] [] pos1] [] pos) (tSS X.K ta) := by
  refine ⟨fun pins s σ H Q I h => Call_ (ld_blt I hg hm PyProof.Rows.boot_sorted ?_)⟩
  refine PyProof.Rows.callWith_builtin1 (PyProof.Rows.args_cons (Call_ (ld_blt I hg2 hm2 PyProof.Rows.boot_set ?_)) rfl) rfl rfl
  refine PyProof.Rows.callWith_type1 (PyProof.Rows.args_cons (thn (ha.run pins s σ H _ I h) fun v s1 ⟨x, H1, I1, r1, q1⟩ => PyProof.Rows.args_nil ?_) na) na rfl
  obtain ⟨l, ns, rfl, hq, hl, hb, q1⟩ := q1
  cases r1
  have fin : ∀ (h2 : Heap) (tk2 c : Nat), SetR X.w h2 s1.heap.objs.size (fun j => decide (j ∈ ns)) c → c ≤ ns.length → (∀ b o, s1.heap.get? b = some o → h2.get? b = some o) → wpAny (model X.prog X.w) X.A (call (.builtin "sorted") [.ref s1.heap.objs.size]) (EP X pins σ Q) X.xe { s1 with heap := h2, toks := tk2 } := fun h2 tk2 c R hcn k => by
    have I2 : L2.Inv X pins σ H1 { s1 with heap := h2, toks := tk2 } := I1.kept fun b o e => k b o e
    have c64 : c < 64 := by
      obtain ⟨o, es, ep, t, ho, hex, hd, g, nd, hm, hb2, hf, hn, hr, hl⟩ := R
      have := few_of (N := 60) nd fun i hi => by
        have := (hm i).mpr hi
        exact hb i (of_decide_eq_true this)
      rw [List.length_map, Array.length_toList] at this
      omega
    exact ss_end hc I2 R c64 fun os p h1 h2 h3 => q1 os p h1 (fun i => by rw [h2 i, decide_eq_true_eq]) h3
  rcases hq with hq | hq
  · obtain ⟨its, r, pl, hz⟩ := I1.list hq
    exact call_set_lstI ns (I1.ok.hd hc) pl.isList (by simpa using r.ints) (by unfold scanBound; omega) fun h2 tk2 c R hcn k => PyProof.Rows.args_nil (fin h2 tk2 c R hcn k)
  · obtain ⟨its, r, pl, hz⟩ := I1.tuple hq
    exact call_set_tupI ns (I1.ok.hd hc) (show s1.heap.IsTuple l its.toArray from pl) (by simpa using r.ints) (by unfold scanBound; omega) fun h2 tk2 c R hcn k => PyProof.Rows.args_nil (fin h2 tk2 c R hcn k)
theorem pd_ss (hc : X.calm = true) (hg : Gl X "sorted") (hm : X.mg "sorted" = none) (hg2 : Gl X "set") (hm2 : X.mg "set" = none) (ha : PE X a (tD X.K wa)) (hs : notStar a = true) :
    PE X (.Call (.Name "sorted" p1) [.Call (.Name "set" p2) [a] [] pos1] [] pos) (tD X.K (w1 ssD wa)) := by
  refine (pe_ss (p1 := p1) (p2 := p2) (pos1 := pos1) (pos := pos) hc hg hm hg2 hm2 ha (star_of hs _ _)).imp fun σ H Q => ?_
  rintro ⟨ρ, M, F, Q0, s, q, g⟩
  refine ⟨ρ, M, F, _, s, q, fun x M1 v H1 q1 t1 f1 r1 p1 => ?_⟩
  obtain ⟨ns, hx, hl, hb, q1⟩ := q1
  have hv : ∃ l, v = V.ref l ∧ (SqL X.K H1 l (ns.map V.int) ∨ SqT X.K H1 l (ns.map V.int)) := by
    rcases hx with rfl | ⟨a, rfl, e⟩
    · unfold Rep at p1
      obtain ⟨a, vs, rfl, h1, h2⟩ := p1
      have ev := Reps.ints' h2
      subst ev
      exact ⟨a, rfl, .inr h1⟩
    · cases p1
      obtain ⟨vs, e1, rr⟩ := r1 _ _ e
      have ev := Reps.ints' rr
      subst ev
      exact ⟨a, rfl, .inl (.of e1)⟩
  obtain ⟨l, rfl, hq⟩ := hv
  refine ⟨l, ns, rfl, hq, hl, hb, fun out p2 ho hm hp => ?_⟩
  exact g _ _ _ _ (q1 out p2 ho hm (r1.none hp)) (t1.trans (.new hp)) (f1.trans ((s.fr.next f1).new hp _)) (r1.new hp ⟨_, upd_same, Reps.ints out⟩) rfl
end
end DL
namespace DL
open PySem PySem.Spec PyProof.Rows L2
variable {K : PySem.W.Frag}
section
variable {prog : Program} {w : World} {A : Around} {E : Value → Shared → Prop} {s : Shared}
theorem rev_adjust (n : Nat) : Builtin.Slice.sliceAdjust none none (-1) (n : Int) = ((n : Int) - 1, -1) := by unfold Builtin.Slice.sliceAdjust; rfl
theorem rev_places (n : Nat) : Builtin.Slice.slicePlaces ((n : Int) - 1) (-1) (-1) = n := by
  have e : ¬ ((-1 : Int) > 0) := by omega
  unfold Builtin.Slice.slicePlaces
  simp only [e, if_false, Int.neg_neg, Int.ediv_one]
  split <;> omega
theorem rev_applied {sl : Addr} {vs : Value} {n : Nat} {Q : Int × Int × Nat → Shared → Prop} (hs : s.heap.IsSliceOf sl .none .none vs) (pv : IsPart vs (some (-1))) (h : Q ((n : Int) - 1, -1, n) s) : wpAny (model prog w) A (Builtin.Slice.sliceApplied (.ref sl) (pure (n : Int))) Q E s := by
  obtain ⟨o, ho, hc, hd⟩ := id hs
  unfold Builtin.Slice.sliceApplied Builtin.Slice.sliceFields
  refine wpAny_bind (wpAny_bind (wpAny_field ho hd (x := .none) rfl (wpAny_bind (wpAny_field ho hd (x := .none) rfl (wpAny_bind (wpAny_field ho hd (x := vs) rfl (wpAny_pure (wpAny_bind (HT.slicePart_ pv ?_)))))))))
  refine (show wpAny _ _ (if ((-1 : Int) == 0) = true then _ else _) _ _ s from ?_)
  rw [if_neg (by decide)]
  refine wpAny_bind (slicePart_none (wpAny_bind (slicePart_none (wpAny_bind (wpAny_pure ?_)))))
  refine (show wpAny _ _ (match Builtin.Slice.sliceAdjust none none (-1) (n : Int) with | (lo, hi) => pure (lo, (-1 : Int), Builtin.Slice.slicePlaces lo hi (-1))) _ _ s from ?_)
  rw [rev_adjust]
  refine (show wpAny _ _ (pure ((n : Int) - 1, (-1 : Int), Builtin.Slice.slicePlaces ((n : Int) - 1) (-1) (-1))) _ _ s from ?_)
  rw [rev_places]
  exact wpAny_pure h
theorem rev_pick (xs : Array Value) : ((List.range xs.size).filterMap fun (m : Nat) => xs[((xs.size : Int) - 1 + (m : Int) * (-1)).toNat]?).toArray = xs.toList.reverse.toArray := by
  congr 1
  have hl : ∀ k, k ≤ xs.size → (List.range k).filterMap (fun (m : Nat) => xs[((xs.size : Int) - 1 + (m : Int) * (-1)).toNat]?) = xs.toList.reverse.take k := by
    intro k
    induction k with
    | zero => intro _; rfl
    | succ k ih =>
      intro hk
      have hk2 : k < xs.toList.reverse.length := by rw [List.length_reverse, Array.length_toList]; omega
      rw [List.range_succ, List.filterMap_append, ih (by omega), List.take_add_one]
      congr 1
      have e1 : ((xs.size : Int) - 1 + (k : Int) * (-1)).toNat = xs.size - 1 - k := by omega
      rw [List.filterMap_cons, List.filterMap_nil, e1, List.getElem?_eq_getElem hk2, List.getElem_reverse]
      have hk3 : xs.size - 1 - k < xs.size := by omega
      rw [Array.getElem?_eq_getElem hk3]
      simp
  rw [hl xs.size (Nat.le_refl _)]
  exact List.take_of_length_le (by rw [List.length_reverse, Array.length_toList]; exact Nat.le_refl _)
theorem item_rev {t sl : Addr} {xs : Array Value} {vs : Value} {Q : Value → Shared → Prop} (ht : IsTup s.heap t xs) (hs : s.heap.IsSliceOf sl .none .none vs) (pv : IsPart vs (some (-1)))
    (h : Q (.ref s.heap.objs.size) { s with heap := s.heap.push { cls := .type "tuple", data := .seq xs.toList.reverse.toArray } }) (hz : xs.size ≤ sizeLine) : wpAny (model prog w) A (getItem (.ref t) (.ref sl)) Q E s := by
  have hz' : sizeOk (.seq xs.toList.reverse.toArray) := show xs.toList.reverse.toArray.size ≤ sizeLine by rw [List.size_toArray, List.length_reverse, Array.length_toList]; exact hz
  obtain ⟨o, ho, hc, hd⟩ := id hs
  have hT : s.TypeIs (.ref sl) "slice" := ⟨o, ho, hc⟩
  unfold getItem
  try with_reducible refine wpAny_holding ?_
  first | refine wpAny_bind (wpAny_pure ?_) | skip
  refine wpAny_bind (wpAny_sequenceKey ht.typeIs (by decide) (wpAny_bind (wpAny_callSpecial?_slot (name := Str.ofString "__getitem__") ht.typeIs PyProof.Rows.slot_tuple_getitem (wpAny_call_entry PyProof.Rows.slot_tuple_getitem ht.typeIs entry_tuple_getitem ?_ (args_tuple_getitem _ _)))))
  refine (show wpAny _ _ (Builtin.Tuple.tupleItemsOf (.ref t) >>= _) _ _ s from wpAny_bind (tupleItemsOf_ ht (wpAny_bind (wpAny_typeOf hT ?_))))
  rw [if_pos (by decide)]
  refine wpAny_bind (rev_applied hs pv ?_)
  have no : ¬ (((xs.size : Int) - 1 == 0 && (-1 : Int) == 1 && xs.size == xs.size) = true) := by simp
  refine (show wpAny _ _ (if ((xs.size : Int) - 1 == 0 && (-1 : Int) == 1 && xs.size == xs.size) = true then _ else _) _ _ s from ?_)
  rw [if_neg no, rev_pick]
  first
    | exact wpAny_bind (m := Builtin.Tuple.tupleExact _) (wpAny_newObj_type (wpAny_pure ⟨_, rfl, wpAny_pure h⟩) hz')
    | exact wpAny_bind (wpAny_bind (m := Builtin.Tuple.tupleExact _) (wpAny_newObj_type (wpAny_pure ⟨_, rfl, wpAny_pure h⟩) hz'))
    | exact wpAny_bind (wpAny_bind (m := Builtin.Tuple.tupleExact _) (wpAny_newObj_type (wpAny_pure (wpAny_pure ⟨_, rfl, wpAny_pure h⟩)) hz'))
end
section
variable {X : Cx} {e : Expr} {te : TE} {we : WE} {k : Nat} {p1 p2 p3 pos : Pos}
def tRvT (K : PySem.W.Frag) (te : TE) : TE := fun σ H Q => te σ H fun x H1 => ∃ a xs, x = V.ref a ∧ ((SqT K H1 a xs ∧ ∀ p, H1 p = none → Q (.ref p) (upd H1 p (.tup xs.reverse))) ∨ (SqL K H1 a xs ∧ ∀ p, H1 p = none → Q (.ref p) (upd H1 p (.lst xs.reverse))))
theorem pe_rvT (he : PE X e te) : PE X (.Subscript e (.Slice none none (some (.UnaryOp .USub (.Constant (.int 1) k p1) p2)) p3) pos) (tRvT X.K te) := by
  have hst : PO X (some (.UnaryOp .USub (.Constant (.int 1) k p1) p2)) (tPart (tUn (rU fun i => .int (-i)) (tC (.int 1)))) := po_some (pe_un un_neg pe_int)
  refine ⟨fun pins s σ H Q I h => Subscript_ (thn (he.run pins s σ H _ I h) fun v s1 ⟨x, H1, I1, r1, a, xs, ex, hxq⟩ => ?_)⟩
  subst ex
  cases r1
  refine wpAny_Slice (thn (po_none.run pins s1 σ H1 (fun o H2 => o = none ∧ H2 = H1) I1 ⟨rfl, rfl⟩) fun v1 s2 ⟨o1, H2, I2, pa, ea, e2⟩ => ?_)
  subst ea e2
  refine thn (po_none.run pins s2 σ H2 (fun o H3 => o = none ∧ H3 = H2) I2 ⟨rfl, rfl⟩) fun v2 s3 ⟨o2, H3, I3, pb, eb, e3⟩ => ?_
  subst eb e3
  refine thn (hst.run pins s3 σ H3 (fun o H4 => o = some (-1) ∧ H4 = H3) I3 ⟨1, rfl, -1, rfl, rfl, rfl⟩) fun v3 s4 ⟨o3, H4, I4, pc, ec, e4⟩ => ?_
  subst ec e4
  cases pa
  cases pb
  have I5 : L2.Inv X pins σ H4 { s4 with heap := s4.heap.push { cls := .type "slice", data := .fields #[.none, .none, v3] } } := I4.kept (t' := s4.toks) fun b ob q => Heap.get?_push_of_some _ q
  rcases hxq with ⟨hx, q⟩ | ⟨hx, q⟩
  · obtain ⟨its, r, ht, hz⟩ := I5.tuple hx
    refine (show wpAny (model X.prog X.w) X.A (subscriptTail e (.Slice none none (some (.UnaryOp .USub (.Constant (.int 1) k p1) p2)) p3) (.ref a) (.ref s4.heap.objs.size)) (EP X pins σ Q) X.xe { s4 with heap := s4.heap.push { cls := .type "slice", data := .fields #[.none, .none, v3] } } from ?_)
    refine tail_any (ops := [.ref a, .ref s4.heap.objs.size]) ht.typeIs PyProof.Rows.slot_tuple_getitem.lookup ?_ (by with_unfolding_all rfl)
    refine item_rev ht (Heap.IsSliceOf.new _ .none .none v3) pc ⟨.ref _, _, I5.laid (t' := s4.toks) (o := .tup xs.reverse) (fun b ob q => Heap.get?_push_of_some _ q) (Nat.le_refl _) ?_, rfl, q _ (I5.hok.fresh (Nat.le_refl _))⟩ (by rw [List.size_toArray, ← r.length]; exact hz)
    exact ⟨by rw [List.length_reverse]; exact hz, _, r.reverse, IsTup.new _ _⟩
  · obtain ⟨its, r, ht, hz⟩ := I5.list hx
    have hlen := r.length
    refine (show wpAny (model X.prog X.w) X.A (subscriptTail e (.Slice none none (some (.UnaryOp .USub (.Constant (.int 1) k p1) p2)) p3) (.ref a) (.ref s4.heap.objs.size)) (EP X pins σ Q) X.xe { s4 with heap := s4.heap.push { cls := .type "slice", data := .fields #[.none, .none, v3] } } from ?_)
    refine tail_any (ops := [.ref a, .ref s4.heap.objs.size]) ht.isList.typeIs (PySem.slot_list_getitem.lookup) ?_ (by with_unfolding_all rfl)
    refine wpAny_getItem_list_slice ht.isList (Heap.IsSliceOf.new _ .none .none v3) .none .none pc (by decide) ?_ (by rw [List.size_toArray]; omega)
    rw [PySem.W.krv_pick]
    refine ⟨.ref _, _, I5.laid (t' := s4.toks) (o := .lst xs.reverse) (fun b ob q => Heap.get?_push_of_some _ q) (Nat.le_refl _) ?_, rfl, q _ (I5.hok.fresh (Nat.le_refl _))⟩
    exact ⟨by rw [List.length_reverse]; exact hz, _, 0, r.reverse, Heap.get?_push_size _ rfl⟩
theorem Reps.rev {H : Hp} : ∀ {ds : List D} {vs : List V}, Reps K H ds vs → Reps K H ds.reverse vs.reverse
  | [], _, h => by unfold Reps at h; subst h; exact .nil
  | d :: ds, _, h => by
    unfold Reps at h
    obtain ⟨v, r, rfl, h1, h2⟩ := h
    rw [List.reverse_cons, List.reverse_cons]
    exact (Reps.rev h2).snoc h1
def revD : D → Mp → DQ → Prop := fun x M Q => (∃ ds, x = .tup ds ∧ Q (.tup ds.reverse) M) ∨ ∃ a ds, x = .ref a ∧ M a = some (.lst ds) ∧ ∀ p, M p = none → Q (.ref p) (up M p (.lst ds.reverse))
theorem pd_rev (he : PE X e (tD X.K we)) : PE X (.Subscript e (.Slice none none (some (.UnaryOp .USub (.Constant (.int 1) k p1) p2)) p3) pos) (tD X.K (w1 revD we)) := by
  refine (pe_rvT (k := k) (p1 := p1) (p2 := p2) (p3 := p3) (pos := pos) he).imp fun σ H Q => ?_
  rintro ⟨ρ, M, F, Q0, s, q, g⟩
  refine ⟨ρ, M, F, _, s, q, fun x M1 v H1 q1 t1 f1 r1 p1 => ?_⟩
  rcases q1 with ⟨ds, rfl, q1⟩ | ⟨a, ds, rfl, e, q1⟩
  · unfold Rep at p1
    obtain ⟨a, vs, rfl, h1, h2⟩ := p1
    refine ⟨a, vs, rfl, .inl ⟨h1, fun p hp => ?_⟩⟩
    exact g _ M1 _ _ q1 (t1.trans (.new hp)) (f1.trans ((s.fr.next f1).more hp)) (r1.more hp) (by unfold Rep; exact ⟨p, _, rfl, .of upd_same, h2.rev.stay (.new hp)⟩)
  · cases p1
    obtain ⟨vs, e1, rr⟩ := r1 _ _ e
    refine ⟨a, vs, rfl, .inr ⟨.of e1, fun p hp => ?_⟩⟩
    exact g _ _ _ _ (q1 p (r1.none hp)) (t1.trans (.new hp)) (f1.trans ((s.fr.next f1).new hp _)) (r1.new hp ⟨_, upd_same, rr.rev.stay (.new hp)⟩) rfl
end
section
variable {X : Cx}
def dictS : Spec := fun ds M Q => ∃ p, ∃ kvs : List (Key × D), ds = [.ref p] ∧ M p = some (.lst (kvs.map fun kv => .tup [kD kv.1, kv.2])) ∧ (kvs.map Prod.fst).Nodup ∧ ∀ q, M q = none → Q (.ref q) (up M q (.dK kvs))
theorem kD_val {H : Hp} {k : Key} {v : V} (h : Rep K H (kD k) v) : v = kV k := by cases k <;> exact h
theorem pairs_reps {H : Hp} : ∀ {kvs : List (Key × D)} {vs : List V}, Reps K H (kvs.map fun kv => .tup [kD kv.1, kv.2]) vs → ∃ (ps : List Addr) (us : List (Key × V)), vs = ps.map V.ref ∧ Paired (fun p (kv : Key × V) => SqT K H p [kV kv.1, kv.2]) ps us ∧ Pairs K H kvs us
  | [], _, h => by
    unfold Reps at h
    subst h
    exact ⟨[], [], rfl, .nil, by unfold Pairs; rfl⟩
  | (k, d) :: kvs, _, h => by
    rw [List.map_cons] at h
    unfold Reps at h
    obtain ⟨v, r, rfl, h1, h2⟩ := h
    obtain ⟨ps, us, rfl, h3, h4⟩ := pairs_reps h2
    unfold Rep at h1
    obtain ⟨a, ws, rfl, h5, h6⟩ := h1
    obtain ⟨x, y, rfl, h7, h8⟩ := h6.two
    have := kD_val h7
    subst this
    exact ⟨a :: ps, (k, y) :: us, rfl, .cons h5 h3, by unfold Pairs; exact ⟨y, us, rfl, h8, h4⟩⟩
theorem merge_new : ∀ (more acc : List (Key × V)), ((acc ++ more).map Prod.fst).Nodup → mergeK acc more = acc ++ more
  | [], acc, _ => by unfold mergeK; simp
  | (k, v) :: more, acc, h => by
    have hk : hasK acc k = false := by
      rw [Bool.eq_false_iff]
      intro z
      rw [hasK_iff] at z
      rw [List.map_append, List.map_cons] at h
      exact (List.nodup_append.mp h).2.2 _ z _ List.mem_cons_self rfl
    have e : putK acc k v = acc ++ [(k, v)] := by rw [putK_hasK, hk]; rfl
    show mergeK (putK acc k v) more = _
    rw [e, merge_new more (acc ++ [(k, v)]) (by simpa using h)]
    simp
theorem cd_dict (hc : X.calm = true) : CallR X (.type "dict") (rDL X.K dictS) := (call_dictP hc).lift fun ds M F H Q0 Q vs r m fr h g => by
  obtain ⟨p, kvs, rfl, e, nd, q⟩ := h
  obtain ⟨v, rfl, rr⟩ := r.one
  cases rr
  obtain ⟨ws, e1, rw'⟩ := m _ _ e
  obtain ⟨ps, us, rfl, h1, h2⟩ := pairs_reps rw'
  refine ⟨p, ps, us, rfl, .of e1, h1, fun a ha => ?_⟩
  rw [merge_new us [] (by rw [List.nil_append, ← h2.keys]; exact nd), List.nil_append]
  exact g _ _ _ _ (q a (m.none ha)) (.new ha) (fr.new ha _) (m.new ha ⟨us, upd_same, h2.stay (.new ha)⟩) rfl
end
section
variable {X : Cx} {a z b : Expr} {wa wz wb : WE}
def wParI (i : Nat) (wo wi we : WE) : WS := fun D0 ρ M => we ρ M fun d M1 => ∃ d1 d2, d = .tup [d1, d2] ∧ wo (ρ.set i (some d1)) M1 fun x M2 => wi (ρ.set i (some d1)) M2 fun y M3 => ∃ p ds k j, x = .ref p ∧ y = .int k ∧ M3 p = some (.lst ds) ∧ ixN ds.length k = some j ∧ D0.nx (ρ.set i (some d1)) (up M3 p (.lst (ds.set j d2)))
theorem psd_parI {i : Nat} {x : Str} {kt : Nat} {px pp pt pos : Pos} (hc : X.calm = true) (hg : PG X (.Name x px) (gName i)) (ho : PE X a (tD X.K wa)) (hz : PE X z (tD X.K wz)) (he : PE X b (tD X.K wb)) (hns : notSlice z = true)
    (hs : swapsWithSole [.Tuple [.Name x px, .Subscript a z pp] kt pt] b pos.line X.env = pure false) (hw : swappedStores [.Tuple [.Name x px, .Subscript a z pp] kt pt] b X.env = pure none) :
    PS X (.Assign [.Tuple [.Name x px, .Subscript a z pp] kt pt] b pos) (tDS X.K (wParI i wa wz wb)) := by
  have hsub : PG X (.Subscript a z pp) (gSub (tD X.K wa) (tD X.K wz) rSetL) := pg_sub ho hz set_list (by intro v; cases z <;> first | rfl | cases hns)
  refine (ps_asg he (pg_tup hc (pgs_cons hg (pgs_cons hsub pgs_nil))) hs hw rfl).imp fun D σ H => ?_
  rintro ⟨ρ, M, F, D0, s, q, g⟩
  refine ⟨ρ, M, F, _, s, q, fun d M1 v H1 q1 t1 f1 r1 p1 => ?_⟩
  obtain ⟨d1, d2, rfl, q1⟩ := q1
  unfold Rep at p1
  obtain ⟨c, ws, rfl, h1, h2⟩ := p1
  obtain ⟨v1, v2, rfl, rv1, rv2⟩ := h2.two
  have s1 := (s.next t1 f1 r1).set rv1 i
  refine ⟨c, _, rfl, h1, rfl, v1, _, rfl, v2, _, rfl, ρ.set i (some d1), M1, F, _, s1, q1, fun x M2 u H2 q2 t2 f2 r2 p2 => ⟨ρ.set i (some d1), M2, F, _, s1.next t2 f2 r2, q2, fun y M3 w H3 q3 t3 f3 r3 p3 => ?_⟩⟩
  obtain ⟨p, ds, k, j, rfl, rfl, e, ej, q3⟩ := q3
  cases p2
  cases p3
  obtain ⟨vs, e1, ps⟩ := r3 _ _ e
  have fr3 := ((s.fr.next f1).next f2).next f3
  have tt : TupS X.K H3 (upd H3 p (.lst (vs.set j v2))) := .lst e1
  have ff := fr3.put (u := .lst (vs.set j v2)) e (.lst (ds.set j d2))
  refine ⟨p, vs, k, j, rfl, rfl, e1, by rw [← ps.length]; exact ej, rfl, ?_⟩
  exact g.nx (ρ.set i (some d1)) _ _ _ q3 (((t1.trans t2).trans t3).trans tt) (((f1.trans f2).trans f3).trans ff) (((s1.next t2 f2 r2).next t3 f3 r3).next tt ff (r3.put e ⟨_, upd_same, (ps.set (rv2.stay (t2.trans t3)) j).stay tt⟩))
end
end DL
namespace DL
open PySem L2
section
variable {prog : Program} {w : World} {κ : Type} [DecidableEq κ] {knd : HeapKind prog w κ} {A : Around} {E0 : Value → Shared → Prop} {s : Shared}
theorem callH_dict {o : Addr} {more : List (κ × Addr × Value)} {Q : Value → Shared → Prop} (hu : knd.room A.in1.in1) (hoS : (o == sysModules) = false) (ne : s.heap.objs.size ≠ o) (hap : (more.map fun x => knd.hash x.1).Nodup) (hsz : more.length ≤ sizeLine)
    (ho2 : (s.heap.push { cls := .type "dict", data := .dict #[] }).DictOfH knd o more) (hty2 : ∀ x ∈ more, ({ s with heap := s.heap.push { cls := .type "dict", data := .dict #[] } } : Shared).TypeIs (.ref x.2.1) "tuple")
    (h : ∀ h', h'.DictOfH knd s.heap.objs.size (storedAllH [] more) → Heap.SameBut s.heap.objs.size (s.heap.push { cls := .type "dict", data := .dict #[] }) h' → Q (.ref s.heap.objs.size) { s with heap := h' }) :
    wpAny (model prog w) A (call (.type "dict") [.ref o]) Q E0 s := by
  have hnew : (s.heap.push { cls := .type "dict", data := .dict #[] }).DictOfH knd s.heap.objs.size [] := .new s.heap
  refine callType_codes (Q₁ := fun x t => x = .ref s.heap.objs.size ∧ t = { s with heap := s.heap.push { cls := .type "dict", data := .dict #[] } }) F.kt_called_dict (F.kt_typeCall_dict_1 _) F.entry_dict_init (kt_code_dict_new _ ⟨rfl, rfl⟩) fun x t hx => ?_
  obtain ⟨rfl, rfl⟩ := hx
  refine ⟨hnew.typeIs, F.args_dict_init_2 _ _, ?_⟩
  unfold Builtin.«dict.__init__» Builtin.Dict.selfAndRest
  refine wpAny_bind (wpAny_bind (wpAny_notOrdered_dict hnew.typeIs (wpAny_pure ?_)))
  exact updateFrom_dictH .none hu ne hoS hnew ho2 (.inr ⟨hty2, hap⟩) (by simpa using hsz) fun h' d1 _ sb => ⟨rfl, h h' d1 sb⟩
end
section
variable {X : Cx} {P : Program} {w : World}
def hashX (P : Program) (w : World) (ks : List Key) : Int := (tupleKind (mixKind P w)).hash ks
def dcpS (P : Program) (w : World) : Spec := fun ds M Q => ∃ p kvs, ds = [.ref p] ∧ M p = some (.dX P w kvs) ∧ kvs.length ≤ sizeLine ∧ (kvs.map fun q => hashX P w q.1).Nodup ∧ ∀ q, M q = none → Q (.ref q) (up M q (.dX P w kvs))
theorem cd_dcp (eP : P = X.prog) (ew : w = X.w) (hu : Ru X) : CallR X (.type "dict") (rDL X.K (dcpS P w)) := fun pins s σ H xs us Q I rv h => by
  subst eP
  subst ew
  have hu1 : X.A.units + 1 + 1 < cLine := Nat.lt_of_le_of_lt (by omega) hu
  obtain ⟨ds, M, F, Q0, r1, m, fr, ⟨p, kvs, rfl, e, hz, hh, q⟩, g⟩ := h
  obtain ⟨v, rfl, rr⟩ := r1.one
  cases rr
  obtain ⟨u, rfl, ru⟩ := vals1 rv
  obtain rfl : u = Value.ref p := ru
  obtain ⟨xs, ex, ps⟩ := m _ _ e
  have hn : H s.heap.objs.size = none := I.hok.fresh (Nat.le_refl _)
  have npz : p ≠ s.heap.objs.size := fun z => by rw [z, hn] at ex; cases ex
  have I' := I.laid (a := s.heap.objs.size) (o := (DcK.t X.prog X.w).u0 s.heap.objs.size) (t' := s.toks) (fun _ _ q => Heap.get?_push_of_some _ q) (Nat.le_refl _) (emp_ok (.t X.prog X.w) ⟨rfl, rfl⟩ _ s.heap I.big)
  have tn : TupS X.K H (upd H s.heap.objs.size ((DcK.t X.prog X.w).u0 s.heap.objs.size)) := .new hn
  have ps' := ps.stay tn
  have ex' : (upd H s.heap.objs.size ((DcK.t X.prog X.w).u0 s.heap.objs.size)) p = some (.ext (TD X.prog X.w p xs)) := by rw [upd_ne npz]; exact ex
  obtain ⟨hsm, ys, f, dd⟩ := td_dict I' ex' ps'.sq
  obtain ⟨fk, fl, fm⟩ := fit_keys f
  have ek : kvs.map Prod.fst = xs.map fun x => x.1 := ps.keys
  have el : kvs.length = xs.length := by have := congrArg List.length ek; simpa using this
  have eh : ys.map (fun x => (tupleKind (mixKind X.prog X.w)).hash x.1) = kvs.map fun q => hashX X.prog X.w q.1 := by
    have e1 : ys.map (fun x => (tupleKind (mixKind X.prog X.w)).hash x.1) = (ys.map fun x => x.1).map (hashX X.prog X.w) := by rw [List.map_map]; rfl
    have e2 : (kvs.map fun q => hashX X.prog X.w q.1) = (kvs.map Prod.fst).map (hashX X.prog X.w) := by rw [List.map_map]; rfl
    rw [e1, e2, ek, fk]
  refine callH_dict (knd := tupleKind (mixKind X.prog X.w)) hu1 hsm npz.symm (by rw [eh]; exact hh) (by rw [← fl, ← el]; exact hz) dd (fun x hx => ?_) fun h' d1 sb => ?_
  · obtain ⟨y, hy, e1, e2⟩ := fm x hx
    obtain ⟨its, _, it, _⟩ := I'.tuple (ps'.sq y hy)
    rw [e2] at it
    exact it.typeIs
  · rw [storedAllH_nil_of_nodup _ dd.nodup] at d1
    obtain ⟨o', es, ep, hq, h2, h3, h4, _, h5⟩ := d1
    have hm : (s.heap.objs.size == sysModules) = false := beq_eq_false_iff_ne.mpr (Nat.ne_of_gt I.big)
    refine ⟨.ref s.heap.objs.size, upd H s.heap.objs.size (.ext (TD X.prog X.w s.heap.objs.size xs)), I.laid (t' := s.toks) (fun b u e => (sb.2 b (Nat.ne_of_lt (Heap.lt_size e))).trans (Heap.get?_push_of_some _ e)) (Nat.le_refl _) (td_ok ⟨hm, ys, f, o', es, ep, hq, h2, h3, h4, h5⟩), rfl, ?_⟩
    exact g _ _ _ _ (q _ (m.none hn)) (.new hn) (fr.new hn _) (m.new hn ⟨xs, upd_same, ps.stay (.new hn)⟩) rfl
def wDlit (kvs : List (Key × D)) : WE := fun _ M Q => ∀ p, M p = none → Q (.ref p) (up M p (.dK kvs))
end
end DL
namespace DL
open PySem PySem.Spec PyProof.Rows L2
variable {K : PySem.W.Frag}
section
variable {X : Cx} {a z b : Expr} {wa wz wb : WE}
def wParJ (i : Nat) (wo wi we : WE) : WS := fun D0 ρ M => we ρ M fun d M1 => ∃ d1 d2, d = .tup [d1, d2] ∧ wo ρ M1 fun x M2 => wi ρ M2 fun y M3 => ∃ p ds k j, x = .ref p ∧ y = .int k ∧ M3 p = some (.lst ds) ∧ ixN ds.length k = some j ∧ D0.nx (ρ.set i (some d2)) (up M3 p (.lst (ds.set j d1)))
def wParK (kd : DcK) (i : Nat) (wo wi we : WE) : WS := fun D0 ρ M => we ρ M fun d M1 => ∃ d1 d2, d = .tup [d1, d2] ∧ wo ρ M1 fun x M2 => wi ρ M2 fun z M3 => ∃ p o o', x = .ref p ∧ M3 p = some o ∧ kd.is o ∧ dlen o < sizeLine ∧ dstore z d1 o = some o' ∧ D0.nx (ρ.set i (some d2)) (up M3 p o')
theorem psd_parK (kd : DcK) (okd : kd.ok X) (hu : Ru X) {i : Nat} {x : Str} {kt : Nat} {px pp pt pos : Pos} (hc : X.calm = true) (hg : PG X (.Name x px) (gName i)) (ho : PE X a (tD X.K wa)) (hi : PE X z (tD X.K wz)) (he : PE X b (tD X.K wb)) (hns : notSlice z = true)
    (hs : swapsWithSole [.Tuple [.Subscript a z pp, .Name x px] kt pt] b pos.line X.env = pure false) (hw : swappedStores [.Tuple [.Subscript a z pp, .Name x px] kt pt] b X.env = pure none) :
    PS X (.Assign [.Tuple [.Subscript a z pp, .Name x px] kt pt] b pos) (tDS X.K (wParK kd i wa wz wb)) := by
  have hsub : PG X (.Subscript a z pp) (gSub (tD X.K wa) (tD X.K wz) (rSetX X.K kd)) := pg_sub ho hi (set_X kd okd hu) (by intro v; cases z <;> first | rfl | cases hns)
  refine (ps_asg he (pg_tup hc (pgs_cons hsub (pgs_cons hg pgs_nil))) hs hw rfl).imp fun D σ H => ?_
  rintro ⟨ρ, M, F, D0, s, q, g⟩
  refine ⟨ρ, M, F, _, s, q, fun d M1 v H1 q1 t1 f1 r1 p1 => ?_⟩
  obtain ⟨d1, d2, rfl, q1⟩ := q1
  unfold Rep at p1
  obtain ⟨c, ws, rfl, h1, h2⟩ := p1
  obtain ⟨v1, v2, rfl, rv1, rv2⟩ := h2.two
  have s1 := s.next t1 f1 r1
  refine ⟨c, _, rfl, h1, rfl, v1, _, rfl, ρ, M1, F, _, s1, q1, fun x M2 u H2 q2 t2 f2 r2 p2 => ⟨ρ, M2, F, _, s1.next t2 f2 r2, q2, fun z M3 w H3 q3 t3 f3 r3 p3 => ?_⟩⟩
  obtain ⟨p, o, o', rfl, e, ko, hz, es, q3⟩ := q3
  cases p2
  have p1' := rv1.stay (t2.trans t3)
  have eO := r3 _ _ e
  have fr3 := ((s.fr.next f1).next f2).next f3
  have key : ∃ u, kd.PtS X.K p w v1 H3 (upd H3 p u) ∧ RepO X.K (upd H3 p u) p o' := by
    have nt := eO.notup (DcK.nc ko)
    have ts : ∀ u, TupS X.K H3 (upd H3 p u) := fun u => .at_ nt
    cases kd with
    | k =>
      obtain ⟨kvs, rfl⟩ := ko
      obtain ⟨vs, e1, ps⟩ := eO
      cases ek : keyD z with
      | none => simp only [dstore, ek] at es; cases es
      | some k =>
        simp only [dstore, ek] at es
        cases es
        obtain rfl := keyD_rep ek p3
        exact ⟨_, ⟨vs, k, rfl, e1, by rw [← ps.length]; exact hz, rfl⟩, _, upd_same, (ps.putD p1').stay (ts _)⟩
    | t P w' =>
      obtain ⟨kvs, rfl⟩ := ko
      obtain ⟨xs, e1, ps⟩ := eO
      cases z <;> (try (simp only [dstore] at es; cases es; done))
      rename_i ds
      cases ek : keysD ds with
      | none => simp only [dstore, ek] at es; cases es
      | some k =>
        simp only [dstore, ek] at es
        cases es
        unfold Rep at p3
        obtain ⟨b, vs, rfl, sq, rs⟩ := p3
        have evs := keysD_reps ek rs
        subst evs
        have el : kvs.length = xs.length := by have := congrArg List.length ps.keys; simpa using this
        exact ⟨_, ⟨xs, k, b, rfl, e1, sq, ps.sq, by rw [← el]; exact hz, rfl⟩, _, upd_same, (ps.put sq p1').stay (ts _)⟩
  obtain ⟨u', pt', rO⟩ := key
  have tt : TupS X.K H3 (upd H3 p u') := .at_ (eO.notup (DcK.nc ko))
  have ff := fr3.put (u := u') e o'
  refine ⟨p, _, rfl, pt', v2, _, rfl, rfl, ?_⟩
  exact g.nx (ρ.set i (some d2)) _ _ _ q3 (((t1.trans t2).trans t3).trans tt) (((f1.trans f2).trans f3).trans ff) ((((s1.next t2 f2 r2).next t3 f3 r3).next tt ff (r3.put e rO (DcK.nc ko))).set (rv2.stay ((t2.trans t3).trans tt)) i)
end
def mergeL {κ : Type} [DecidableEq κ] (kvs more : List (κ × D)) : List (κ × D) := more.foldl (fun acc p => putL acc p.1 p.2) kvs
section
variable {X : Cx} {a b : Expr} {wa wb : WE} {pos apos : Pos}
def updX (P : Program) (w : World) : D → D → Mp → DQ → Prop := fun x y M Q => ∃ p q kvs more, x = .ref p ∧ y = .ref q ∧ p ≠ q ∧ M p = some (.dX P w kvs) ∧ M q = some (.dX P w more) ∧ (kvs ≠ [] ∨ (more.map fun e => hashX P w e.1).Nodup) ∧ kvs.length + more.length ≤ sizeLine ∧ Q .non (up M p (.dX P w (mergeL kvs more)))
def wUpdX (P : Program) (w : World) (wa wb : WE) : WE := fun ρ M Q => wa ρ M fun x M1 => (∃ p kvs, x = .ref p ∧ M1 p = some (.dX P w kvs)) ∧ wb ρ M1 fun y M2 => updX P w x y M2 Q
end
end DL
namespace DL
open PySem PySem.Spec PyProof.Rows L2
variable {K : PySem.W.Frag}
section
variable {X : Cx}
def indexM : MSpec := fun x ds M Q => ∃ es ps y p j z, seqD M x es ∧ Dats M es ps ∧ ds = [y] ∧ Dat M y p ∧ SeqAt.shaped (.list ps) = true ∧ SeqAt.shaped p = true ∧ ps[j]? = some z ∧ PyData.eqv z p = true ∧ (∀ (m : Nat) (z' : PyData), m < j → ps[m]? = some z' → PyData.eqv z' p = false) ∧ Q (.int (j : Nat)) M
theorem md_indexL (hu : Ru X) : MtR X "list.index" (rDM X.K fun x ds M Q => (∃ a, x = .ref a) ∧ indexM x ds M Q) := (mt_indexD hu).lift fun d ds M F H Q0 Q v vs r0 r1 m fr h g => by
  obtain ⟨⟨a, rfl⟩, es, ps, y, p, j, z, hs, hd, rfl, hy, s1, s2, e1, e2, e3, q⟩ := h
  rcases hs with hs | ⟨a', ea, hs⟩
  · cases hs
  · cases ea
    have dp : Dp X.K H v (.list ps) := (Dat.lst hs hd).dp m r0
    cases r0
    obtain ⟨u, rfl, r2⟩ := r1.one
    exact ⟨a, u, p, ps, j, z, rfl, rfl, dp, hy.dp m r2, s1, s2, e1, e2, e3, g _ M _ H q (.refl _) fr.frm m rfl⟩
end
section
variable {X : Cx}
def indexL : MSpec := fun x ds M Q => (∃ a, x = .ref a) ∧ indexM x ds M Q
def popAtM : MSpec := fun x ds M Q => ∃ p xs i y, x = .ref p ∧ ds = [.int ((i : Nat) : Int)] ∧ M p = some (.lst xs) ∧ xs[i]? = some y ∧ xs.length ≤ sizeLine ∧ Q y (up M p (.lst (xs.eraseIdx i)))
theorem Reps.erase {H : Hp} : ∀ {ds : List D} {vs : List V} (n : Nat), Reps K H ds vs → Reps K H (ds.eraseIdx n) (vs.eraseIdx n)
  | [], _, _, h => by unfold Reps at h; subst h; exact .nil
  | d :: ds, _, 0, h => by
    unfold Reps at h
    obtain ⟨v, r, rfl, h1, h2⟩ := h
    exact h2
  | d :: ds, _, n + 1, h => by
    unfold Reps at h
    obtain ⟨v, r, rfl, h1, h2⟩ := h
    exact .cons h1 (h2.erase n)
theorem md_popAt : MtR X "list.pop" (rDM X.K popAtM) := MtR.lift (r := rPopAt) mt_popAt fun d ds M F H Q0 Q v vs r0 r1 m fr h g => by
  obtain ⟨p, xs, i, y, rfl, rfl, e, ey, hz, q⟩ := h
  cases r0
  obtain ⟨u, rfl, r2⟩ := r1.one
  cases r2
  obtain ⟨ws, e1, p1⟩ := m _ _ e
  obtain ⟨v, ev, rv⟩ := p1.get ey
  have hi : i < ws.length := (List.getElem?_eq_some_iff.mp ev).1
  have hl := p1.length
  have hs := sizeLine_eq
  refine ⟨p, ws, i, i, v, rfl, rfl, e1, by omega, by omega, ?_, ev, ?_⟩
  · unfold seqIndex?
    have e0 : ¬ ((i : Int) < 0) := by omega
    have e1 : (0 : Int) ≤ (i : Int) := by omega
    have e2 : (i : Int) < (ws.length : Int) := by omega
    simp [e0, e1, e2]
    try omega
  · exact g _ _ _ _ q (.lst e1) (fr.put e _) (m.put e ⟨_, upd_same, (p1.erase i).stay (.lst e1)⟩) (rv.stay (.lst e1))
def countM : MSpec := fun x ds M Q => ∃ a es ps y p, x = .ref a ∧ M a = some (.lst es) ∧ Dats M es ps ∧ ds = [y] ∧ Dat M y p ∧ SeqAt.shaped (.list ps) = true ∧ SeqAt.shaped p = true ∧ Q (.int ((ps.countP fun z => PyData.eqv z p : Nat) : Int)) M
theorem md_count (hu : Ru X) : MtR X "list.count" (rDM X.K countM) := fun pins s σ H x xs v us Q I rx rxs h => by
  obtain ⟨d0, ds, M, F, Q0, r0, r1, m, fr, ⟨a, es, ps, y, p, rfl, e, hd, rfl, hy, s1, s2, q⟩, g⟩ := h
  have dp : Dp X.K H x (.list ps) := (Dat.lst e hd).dp m r0
  cases r0
  obtain ⟨u, rfl, r2⟩ := r1.one
  have dy : Dp X.K H u p := hy.dp m r2
  cases rx
  cases rxs with
  | cons ry rt =>
    rename_i uy ut
    cases rt
    obtain ⟨bs, rr⟩ := Dp.reads I p u uy dy ry
    have hxs : PyData.canLayAll0 ps = true := SeqAt.canLay_of_shaped s1
    have hroom : X.A.units + 1 + min (PyData.depthAll ps) p.depth < cLine := room_in_shaped s2 hu
    cases dp with
    | lst hs ha =>
      obtain ⟨its, rv, ⟨⟨cls, dd, data, sls⟩, n, ho, hc, hdn, hdt⟩, hlen⟩ := I.list hs
      simp only at hc hdt
      subst hc hdt
      obtain ⟨as, h4⟩ := Dp.readsAll I ps _ its ha rv
      have hmap : its.map (SeqAt.readOf s.heap) = ps := SeqAt.readsAll_map ps its as hxs h4
      refine call_meets PySem.F.slot_list_count ⟨_, ho, rfl⟩ PySem.F.entry_list_count (PySem.F.args_list_count_2 _ _)
        (SeqAt.list_countAt a its.toArray n dd sls uy (fun w => PyData.eqv (SeqAt.readOf s.heap w) p)) ⟨ho, SeqAt.items_eqAt (vs := its.toArray) (show ReadsAll s.heap its.toArray.toList ps as from h4) rr hxs (SeqAt.canLay_of_shaped s2) hroom, ?_⟩
      have ec : its.toArray.toList.countP (fun w => PyData.eqv (SeqAt.readOf s.heap w) p) = ps.countP fun z => PyData.eqv z p := by
        rw [← hmap, List.countP_map]
        rfl
      refine ⟨.int (ps.countP fun z => PyData.eqv z p : Nat), H, I.tok _, ⟨s.toks, ?_⟩, g _ M _ H q (.refl _) fr.frm m rfl⟩
      show Value.int ((its.toArray.toList.countP _ : Nat) : Int) s.toks = Value.int ((ps.countP _ : Nat) : Int) s.toks
      rw [ec]
end
end DL
namespace DL
open PySem PySem.Spec PyProof.Rows L2
variable {K : PySem.W.Frag}
section
variable {X : Cx} {a : Expr} {wa : WE} {p1 p2 pos1 pos : Pos}
theorem Reps.intsT {H : Hp} : ∀ {ns : List Int} {vs : List V}, Reps K H (ns.map D.int) vs → vs = ns.map V.int
  | [], _, h => by unfold Reps at h; exact h
  | n :: ns, _, h => by
    rw [List.map_cons] at h
    unfold Reps at h
    obtain ⟨v, r, rfl, h1, h2⟩ := h
    cases h1
    rw [Reps.intsT h2]
    rfl
theorem tups_reps {H : Hp} : ∀ {L : List (List Int)} {vs : List V}, Reps K H (L.map fun l => .tup (l.map D.int)) vs → ∃ ks : List (Addr × List Int), vs = ks.map (fun p => V.ref p.1) ∧ ks.map (·.2) = L ∧ ∀ p ∈ ks, SqT K H p.1 (p.2.map V.int)
  | [], _, h => by unfold Reps at h; subst h; exact ⟨[], rfl, rfl, fun _ h => nomatch h⟩
  | l :: L, _, h => by
    rw [List.map_cons] at h
    unfold Reps at h
    obtain ⟨v, r, rfl, h1, h2⟩ := h
    obtain ⟨ks, rfl, e, hk⟩ := tups_reps h2
    unfold Rep at h1
    obtain ⟨b, ws, rfl, h3, h4⟩ := h1
    have := h4.intsT
    subst this
    refine ⟨(b, l) :: ks, rfl, by rw [List.map_cons, e], fun p hp => ?_⟩
    rcases List.mem_cons.mp hp with rfl | hp
    · exact h3
    · exact hk p hp
theorem reps_tups {H : Hp} : ∀ {ks : List (Addr × List Int)}, (∀ p ∈ ks, SqT K H p.1 (p.2.map V.int)) → Reps K H ((ks.map (·.2)).map fun l => .tup (l.map D.int)) (ks.map fun p => V.ref p.1)
  | [], _ => .nil
  | (b, l) :: ks, h => by
    rw [List.map_cons, List.map_cons, List.map_cons]
    refine .cons ?_ (reps_tups fun p hp => h p (List.mem_cons_of_mem _ hp))
    unfold Rep
    exact ⟨b, _, rfl, h _ List.mem_cons_self, Reps.ints l⟩
def ssT : D → Mp → DQ → Prop := fun x M Q => ∃ (a : Addr) (L : List (List Int)) (d : Nat) (B : Int), x = .ref a ∧ M a = some (.lst (L.map fun l => .tup (l.map D.int))) ∧ L.length < 64 ∧ 1 ≤ d ∧ (∀ l ∈ L, l.length = d ∧ TS.Bd B l) ∧
  ∀ (out : List (List Int)) (p : Addr), out.Nodup → (∀ l, l ∈ out ↔ l ∈ L) → out.Pairwise (fun q r => TS.code B q ≤ TS.code B r) → M p = none → Q (.ref p) (up M p (.lst (out.map fun l => .tup (l.map D.int))))
theorem pd_ssT (hc : X.calm = true) (hu : Ru X) (hg : Gl X "sorted") (hm : X.mg "sorted" = none) (hg2 : Gl X "set") (hm2 : X.mg "set" = none) (ha : PE X a (tD X.K wa)) (hs : notStar a = true) :
    PE X (.Call (.Name "sorted" p1) [.Call (.Name "set" p2) [a] [] pos1] [] pos) (tD X.K (w1 ssT wa)) := by
  have h1 := pe_callTy (p := p2) (pos := pos1) (cr_setOfT hc (by have := hu; omega)) hg2 hm2 (by decide +kernel) (pa_cons ha pa_nil (star_of hs _ _)) (he := star_of hs _ _)
  refine (pe_callB (p := p1) (pos := pos) (cr_sortedT hc) hg hm PyProof.Rows.boot_sorted (pa_cons h1 pa_nil)).imp fun σ H Q => ?_
  rintro ⟨ρ, M, F, Q0, s, q, g⟩
  refine ⟨ρ, M, F, _, s, q, fun x M1 v H1 q1 t1 f1 r1 p1 => ?_⟩
  obtain ⟨a, L, d, B, rfl, e, hz, hd, hB, q1⟩ := q1
  cases p1
  obtain ⟨vs, e1, rr⟩ := r1 _ _ e
  obtain ⟨ks, rfl, ek, hk⟩ := tups_reps rr
  have zk : ks.length = L.length := by rw [← ek, List.length_map]
  refine ⟨a, ks, rfl, .of e1, hk, by omega, fun b S hb hS1 hS2 => ?_⟩
  have tb : TupS X.K H1 (upd H1 b (SetTO X.prog X.w b S)) := .new hb
  refine ⟨b, S, d, B, rfl, upd_same, fun p hp => tb.1 _ _ (hk p (hS1 p hp)), hd, fun p hp => hB p.2 (by rw [← ek]; exact List.mem_map_of_mem (hS1 p hp)), fun S' p hS' nd hl hpw hp => ?_⟩
  have tp : TupS X.K (upd H1 b (SetTO X.prog X.w b S)) (upd (upd H1 b (SetTO X.prog X.w b S)) p (.lst (S'.map fun q => V.ref q.1))) := .new hp
  have mem : ∀ l, l ∈ S'.map (·.2) ↔ l ∈ L := fun l => by
    constructor
    · intro h
      obtain ⟨q, hq, rfl⟩ := List.mem_map.mp h
      rw [← ek]
      exact List.mem_map_of_mem (hS1 q (hS'.mem_iff.mp hq))
    · intro h
      rw [← ek] at h
      obtain ⟨q, hq, rfl⟩ := List.mem_map.mp h
      obtain ⟨q2, hq2, e2⟩ := List.mem_map.mp (hS2 q hq)
      rw [← e2]
      exact List.mem_map_of_mem (hS'.mem_iff.mpr hq2)
  have hp1 : H1 p = none := by
    by_cases e : p = b
    · rw [e]; exact hb
    · rw [upd_ne e] at hp; exact hp
  have m1 : RepM X.K (upd H1 b (SetTO X.prog X.w b S)) M1 := r1.more hb
  have f2 : Frm F H1 (upd H1 b (SetTO X.prog X.w b S)) M1 := (s.fr.next f1).more hb
  exact g _ _ _ _ (q1 (S'.map (·.2)) p nd mem (List.pairwise_map.mpr hpw) (r1.none hp1)) ((t1.trans tb).trans tp) ((f1.trans f2).trans (((s.fr.next f1).next f2).new hp _)) (m1.new hp ⟨_, upd_same, (reps_tups fun q hq => tp.1 _ _ (tb.1 _ _ (hk q (hS1 q (hS'.mem_iff.mp hq)))))⟩) rfl
end
end DL
namespace DL
open PySem PySem.Spec PyProof.Rows L2
variable {K : PySem.W.Frag}
section
variable {X : Cx}
end
end DL
namespace DL
open PySem PySem.Spec PyProof.Rows L2
end DL
namespace DL
open PySem L2
variable {K : PySem.W.Frag}
section
variable {X : Cx} {a b : Expr} {wa wb : WE} {pos : Pos}
end
end DL
namespace DL
open PySem PySem.Spec PyProof.Rows L2
variable {K : PySem.W.Frag}
def perm {α : Type} (ix : List Nat) (xs : List α) : List α := ix.filterMap fun i => xs[i]?
def permS (ix : List Nat) (S : Spec) : Spec := fun ds M Q => S (perm ix ds) M Q
structure MethK (k : Co) (C : Addr) (m : Str) (ks : List Str) (S : Spec) : Prop where
  cl : Cls k.K C
  ex : ∃ (n : Nat) (f : Addr) (fd : FuncData) (ps : List Str) (ix : List Nat) (S0 : Spec), S = permS ix S0 ∧ FnOk k.prog k.w k.K k.mg k.base CX0 n f fd ps (spD k.K S0) ∧ Room n k.A ∧ KBn k.K fd ps 1 ks (fun us ws => perm ix (us ++ ws)) (fun vs zs => perm ix (vs ++ zs)) ∧ Meth k.K C m f
section
variable {X : Cx}
end
end DL
namespace DL
open PySem PySem.Spec PyProof.Rows L2
variable {K : PySem.W.Frag}
section
variable {X : Cx}
end
end DL
namespace DL
open PySem PySem.Spec PyProof.Rows L2
variable {K : PySem.W.Frag}
section
variable {X : Cx}
end
end DL
namespace DL
open PySem PySem.Spec PyProof.Rows L2
variable {K : PySem.W.Frag}
section
variable {X : Cx}
end
end DL
namespace DL
open PySem PySem.Spec PyProof.Rows L2
variable {K : PySem.W.Frag}
def tnM (I a b : Addr) (i : Nat) (h : Heap) : Prop := (IsZip h (I + 4) (I + 2) (I + 3) .none ∧ IsTupOf2 h (I + 2) (.ref I) (.ref (I + 1))) ∧ (∃ p q, IsTupOf2 h (I + 3) p q) ∧ h.IsListIter I a i ∧ h.IsTupleIter (I + 1) b i
abbrev fpM (I : Addr) : List Addr := [I + 4, I + 2, I + 3, I, I + 1]
section
variable {X : Cx} {a b : Expr} {wa wb : WE}
def zipM (M : Mp) (d e : D) (T : DIt) : Prop := ∃ p xs ys, d = .ref p ∧ e = .tup ys ∧ M p = some (.lst xs) ∧ T = ⟨zipI xs ys, fun M => M p = some (.lst xs)⟩
def wIMix (wa wb : WE) : WI := fun ρ M Q => wa ρ M fun d M1 => wb ρ M1 fun e M2 => ∃ T, zipM M2 d e T ∧ Q T M2
end
section
variable {X : Cx} {a b e : Expr} {pos : Pos}
def wIfB (t u v : WT) : WT := fun ρ M Q => t ρ M fun c M1 => if c = true then u ρ M1 Q else v ρ M1 Q
theorem pdt_if {wt wu wv : WT} (he : PT X e (tDT X.K wt)) (ha : PT X a (tDT X.K wu)) (hb : PT X b (tDT X.K wv)) : PT X (.IfExp e a b pos) (tDT X.K (wIfB wt wu wv)) := ⟨fun pins s σ H Q I hh => by
  obtain ⟨ρ, M, F, Q0, st, q, g⟩ := hh
  refine isTrue_IfExp (thn (he.run pins s σ H (fun c H1 => if c = true then tDT X.K wu σ H1 Q else tDT X.K wv σ H1 Q) I ⟨ρ, M, F, _, st, q, fun c M1 H1 q1 t1 f1 r1 => ?_⟩) fun c s1 ⟨H1, I1, q1⟩ => ?_)
  · cases c with
    | true => rw [if_pos rfl] at q1 ⊢; exact ⟨ρ, M1, F, Q0, st.next t1 f1 r1, q1, g.from t1 f1⟩
    | false => rw [if_neg Bool.false_ne_true] at q1 ⊢; exact ⟨ρ, M1, F, Q0, st.next t1 f1 r1, q1, g.from t1 f1⟩
  · cases c with
    | true => exact ha.run pins s1 σ H1 Q I1 q1
    | false => exact hb.run pins s1 σ H1 Q I1 q1⟩
end
end DL
namespace DL
open PySem PySem.Spec PyProof.Rows L2
variable {K : PySem.W.Frag}
theorem txk_ok {P : Program} {w : World} {H : Hp} {h : Heap} {a : Addr} {vs : List V} (t : TXk a vs h) : ObjOk P w H h a (.ext (TXk a vs)) :=
  ⟨t, let ⟨_, _, _, e⟩ := t; ⟨_, e⟩, fun _ _ t1 k => let ⟨its, z, r, e⟩ := t1; ⟨its, z, r, k _ e⟩⟩
section
variable {X : Cx}
def tupXS : Spec := fun ds M Q => ∃ a xs, ds = [.ref a] ∧ M a = some (.lst xs) ∧ (Q (.tup xs) M ∨ ∀ p, M p = none → Q (.ref p) (up M p (.tx xs)))
theorem new_tx : CallR X (.type "tuple") (fun xs H Q => ∃ p ys, xs = [V.ref p] ∧ SqL X.K H p ys ∧ ∀ l, H l = none → Q (.ref l) (upd H l (.ext (TXk l ys)))) := fun pins s σ H xs us Q I r h => by
  obtain ⟨p, ys, rfl, hq, q⟩ := h
  obtain ⟨u, rfl, rx⟩ := vals1 r
  cases rx
  obtain ⟨its, rv, hl, hz⟩ := I.list hq
  have ln := rv.length
  refine call_tuple_list hl.isList (fun h1 kp => ?_) (by rw [List.size_toArray]; omega)
  have Ik : Inv X pins σ H { s with heap := h1 } := I.kept (t' := s.toks) kp
  have ok : ObjOk X.prog X.w (upd H h1.objs.size (.ext (TXk h1.objs.size ys))) (h1.push { cls := .type "tuple", data := .seq its.toArray }) h1.objs.size (.ext (TXk h1.objs.size ys)) :=
    txk_ok ⟨its, by omega, rv, Heap.get?_push_size _ rfl⟩
  exact ⟨.ref h1.objs.size, _, Ik.laid (t' := s.toks) (fun b o e => Heap.get?_push_of_some _ e) (Nat.le_refl _) ok, rfl, q _ (Ik.hok.fresh (Nat.le_refl _))⟩
theorem cd_tupX : CallR X (.type "tuple") (rDL X.K tupXS) := fun pins s σ H xs us Q I rv hh => by
  obtain ⟨ds, M, F, Q0, r1, m, fr, ⟨a, es, rfl, e, q⟩, g⟩ := hh
  rcases q with q | q
  · exact cd_tuple pins s σ H xs us Q I rv ⟨[.ref a], M, F, Q0, r1, m, fr, ⟨_, es, rfl, .inr ⟨a, rfl, e⟩, q⟩, g⟩
  · refine new_tx pins s σ H xs us Q I rv ?_
    obtain ⟨v, rfl, rr⟩ := r1.one
    cases rr
    obtain ⟨vs, q1, p1⟩ := m _ _ e
    refine ⟨a, vs, rfl, .of q1, fun l hl => ?_⟩
    exact g _ _ _ _ (q l (m.none hl)) (.new hl) (fr.new hl _) (m.new hl ⟨vs, upd_same, p1.stay (.new hl)⟩) rfl
def ixX (es : List D) (ds : List D) (M : Mp) (Q : DQ) : Prop := ∃ ps y p j z, Dats M es ps ∧ ds = [y] ∧ Dat M y p ∧ SeqAt.shaped (.list ps) = true ∧ SeqAt.shaped p = true ∧ ps[j]? = some z ∧ PyData.eqv z p = true ∧ (∀ (m : Nat) (z' : PyData), m < j → ps[m]? = some z' → PyData.eqv z' p = false) ∧ Q (.int (j : Nat)) M
def wIxX (wo : WE) (u : WA) : WE := fun ρ M Q => wo ρ M fun x M1 => ∃ p es, x = .ref p ∧ M1 p = some (.tx es) ∧ u ρ M1 fun ds M2 => M2 p = some (.tx es) ∧ ixX es ds M2 Q
end
end DL
namespace DL
open PySem PySem.Spec PyProof.Rows L2
section
variable {prog : Program} {w : World} {A : Around} {E : Value → Shared → Prop} {s : Shared}
variable {z TI TO T i1 i2 : Addr} {fp1 fp2 : List Addr} {n1 n2 i : Nat} {P1 P2 : Nat → Value → Prop} {St1 St2 : Nat → Heap → Prop} {f : Bool} {oT : Obj}
end
def ZSt (I a b : Addr) (i : Nat) (h : Heap) : Prop := (i = 0 ∧ tnM I a b 0 h) ∨ (0 < i ∧ ∃ (T : Addr) (f : Bool) (oT : Obj), (oT.cls = .type "tuple" ∧ T ∉ fpM I) ∧ h.get? T = some oT ∧ (IsZipHeld h (I + 4) (I + 2) (I + 3) T f ∧ IsTupOf2 h (I + 2) (.ref I) (.ref (I + 1))) ∧ h.IsListIter I a i ∧ h.IsTupleIter (I + 1) b i)
theorem ZSt.stay {I a b : Addr} {i : Nat} {h h' : Heap} (z : ZSt I a b i h) (k : ∀ c o, (c ∈ fpM I ∨ o.cls = .type "tuple") → h.get? c = some o → h'.get? c = some o) : ZSt I a b i h' := by
  rcases z with ⟨e, ⟨t1, t2⟩, ⟨p, q, t3⟩, t4, t5⟩ | ⟨e, T, f, oT, ⟨o1, o2⟩, t0, ⟨t1, t2⟩, t4, t5⟩
  · exact .inl ⟨e, ⟨k _ _ (.inl (by simp)) t1, k _ _ (.inl (by simp)) t2⟩, ⟨p, q, k _ _ (.inl (by simp)) t3⟩, t4.at fun o z => k _ _ (.inl (by simp)) z, t5.at fun o z => k _ _ (.inl (by simp)) z⟩
  · exact .inr ⟨e, T, f, oT, ⟨o1, o2⟩, k _ _ (.inr o1) t0, ⟨k _ _ (.inl (by simp)) t1, k _ _ (.inl (by simp)) t2⟩, t4.at fun o z => k _ _ (.inl (by simp)) z, t5.at fun o z => k _ _ (.inl (by simp)) z⟩
section
variable {prog : Program} {w : World} {A : Around} {E : Value → Shared → Prop} {s : Shared} {I a b i : Nat} {us vs : Array Value}
structure Prs (I : Nat) (us vs : Array Value) (h : Heap) (ts : List Nat) : Prop where
  at_ : ∀ (j t : Nat), ts[j]? = some t → ∃ x y, us[j]? = some x ∧ vs[j]? = some y ∧ IsTupOf2 h t x y
  rng : ∀ t ∈ ts, I + 5 < t
  inc : ts.Pairwise (· < ·)
theorem Prs.stay {h h' : Heap} {ts : List Nat} (p : Prs I us vs h ts) (k : ∀ c o, I + 5 < c → h.get? c = some o → h'.get? c = some o) : Prs I us vs h' ts :=
  ⟨fun j t e => let ⟨x, y, e1, e2, e3⟩ := p.at_ j t e; ⟨x, y, e1, e2, k _ _ (p.rng t (List.mem_of_getElem? e)) e3⟩, p.rng, p.inc⟩
theorem Prs.lt {h : Heap} {ts : List Nat} (p : Prs I us vs h ts) {t : Nat} (ht : t ∈ ts) : t < h.objs.size := by
  obtain ⟨j, hj⟩ := List.getElem?_of_mem ht
  obtain ⟨x, y, _, _, e⟩ := p.at_ j t hj
  exact Heap.lt_size e
theorem Prs.more {h h' : Heap} {ts : List Nat} {x y : Value} {N : Nat} (p : Prs I us vs h ts) (k : ∀ c o, I + 5 < c → h.get? c = some o → h'.get? c = some o) (hN : h.objs.size ≤ N) (h5 : I + 5 < N) (hx : us[ts.length]? = some x) (hy : vs[ts.length]? = some y) (e : IsTupOf2 h' N x y) : Prs I us vs h' (ts ++ [N]) := by
  have p' := p.stay k
  refine ⟨fun j t ej => ?_, fun t ht => ?_, List.pairwise_append.mpr ⟨p.inc, List.pairwise_singleton _ _, fun t ht u hu => ?_⟩⟩
  · rcases Nat.lt_or_ge j ts.length with q | q
    · rw [List.getElem?_append_left q] at ej
      exact p'.at_ j t ej
    · have hj : j < (ts ++ [N]).length := (List.getElem?_eq_some_iff.mp ej).1
      rw [List.length_append, List.length_singleton] at hj
      have e2 : j = ts.length := by omega
      subst e2
      rw [List.getElem?_append_right (Nat.le_refl _), Nat.sub_self] at ej
      cases ej
      exact ⟨x, y, hx, hy, e⟩
  · rcases List.mem_append.mp ht with q | q
    · exact p.rng t q
    · rw [List.mem_singleton.mp q]; exact h5
  · rw [List.mem_singleton.mp hu]
    exact Nat.lt_of_lt_of_le (p.lt ht) hN
end
section
variable {X : Cx} {a b : Expr} {wa wb : WE}
def wZipL (wa wb : WE) : WE := fun ρ M Q => wa ρ M fun d M1 => wb ρ M1 fun e M2 => ∃ p xs ys, d = .ref p ∧ e = .tup ys ∧ M2 p = some (.lst xs) ∧ ∀ q, M2 q = none → Q (.ref q) (up M2 q (.lst (zipI xs ys)))
end
end DL
namespace DL
open PySem PySem.Spec PyProof.Rows L2
variable {K : PySem.W.Frag}
theorem TPs.get {H : Hp} : ∀ {kvs : List (List Key × D)} {xs : List (List Key × Addr × V)}, TPs K H kvs xs → ∀ {i : Nat} {p : List Key × D}, kvs[i]? = some p → ∃ b v, xs[i]? = some (p.1, b, v) ∧ SqT K H b (p.1.map kV) ∧ Rep K H p.2 v
  | [], _, _, _, _, h => nomatch h
  | (k, d) :: ds, xs, t, 0, p, h => by
    cases h
    unfold TPs at t
    obtain ⟨b, v, r, rfl, h1, h2, _⟩ := t
    exact ⟨b, v, rfl, h1, h2⟩
  | (k, d) :: ds, xs, t, i + 1, p, h => by
    unfold TPs at t
    obtain ⟨b, v, r, rfl, _, _, h3⟩ := t
    exact TPs.get h3 (i := i) (by simpa using h)
theorem TPs.len {H : Hp} : ∀ {kvs : List (List Key × D)} {xs : List (List Key × Addr × V)}, TPs K H kvs xs → kvs.length = xs.length
  | [], _, t => by unfold TPs at t; subst t; rfl
  | (k, d) :: ds, xs, t => by
    unfold TPs at t
    obtain ⟨b, v, r, rfl, _, _, h3⟩ := t
    rw [List.length_cons, List.length_cons, TPs.len h3]
section
variable {X : Cx} {a : Expr} {wa : WE}
def itemsD (kvs : List (List Key × D)) : List D := kvs.map fun p => .tup [keyT p.1, p.2]
def wItemsL (wa : WE) : WE := fun ρ M Q => wa ρ M fun d M1 => ∃ (P : Program) (w : World) (p : Addr) (kvs : List (List Key × D)), d = .ref p ∧ M1 p = some (.dX P w kvs) ∧ kvs.length ≤ 1000000 ∧ ∀ q, M1 q = none → Q (.ref q) (up M1 q (.lst (itemsD kvs)))
end
end DL
namespace DL
open PySem PySem.Spec PyProof.Rows L2
def tnMT (I a b : Addr) (i : Nat) (h : Heap) : Prop := (IsZip h (I + 4) (I + 2) (I + 3) .none ∧ IsTupOf2 h (I + 2) (.ref I) (.ref (I + 1))) ∧ (∃ p q, IsTupOf2 h (I + 3) p q) ∧ h.IsTupleIter I a i ∧ h.IsTupleIter (I + 1) b i
def ZStT (I a b : Addr) (i : Nat) (h : Heap) : Prop := (i = 0 ∧ tnMT I a b 0 h) ∨ (0 < i ∧ ∃ (T : Addr) (f : Bool) (oT : Obj), (oT.cls = .type "tuple" ∧ T ∉ fpM I) ∧ h.get? T = some oT ∧ (IsZipHeld h (I + 4) (I + 2) (I + 3) T f ∧ IsTupOf2 h (I + 2) (.ref I) (.ref (I + 1))) ∧ h.IsTupleIter I a i ∧ h.IsTupleIter (I + 1) b i)
theorem ZStT.stay {I a b : Addr} {i : Nat} {h h' : Heap} (z : ZStT I a b i h) (k : ∀ c o, (c ∈ fpM I ∨ o.cls = .type "tuple") → h.get? c = some o → h'.get? c = some o) : ZStT I a b i h' := by
  rcases z with ⟨e, ⟨t1, t2⟩, ⟨p, q, t3⟩, t4, t5⟩ | ⟨e, T, f, oT, ⟨o1, o2⟩, t0, ⟨t1, t2⟩, t4, t5⟩
  · exact .inl ⟨e, ⟨k _ _ (.inl (by simp)) t1, k _ _ (.inl (by simp)) t2⟩, ⟨p, q, k _ _ (.inl (by simp)) t3⟩, t4.at fun o z => k _ _ (.inl (by simp)) z, t5.at fun o z => k _ _ (.inl (by simp)) z⟩
  · exact .inr ⟨e, T, f, oT, ⟨o1, o2⟩, k _ _ (.inr o1) t0, ⟨k _ _ (.inl (by simp)) t1, k _ _ (.inl (by simp)) t2⟩, t4.at fun o z => k _ _ (.inl (by simp)) z, t5.at fun o z => k _ _ (.inl (by simp)) z⟩
section
variable {prog : Program} {w : World} {A : Around} {E : Value → Shared → Prop} {s : Shared} {I a b i : Nat} {us vs : Array Value}
end
section
variable {X : Cx} {a b : Expr} {wa wb : WE}
def wZipLT (wa wb : WE) : WE := fun ρ M Q => wa ρ M fun d M1 => wb ρ M1 fun e M2 => ∃ xs ys, d = .tup xs ∧ e = .tup ys ∧ ∀ q, M2 q = none → Q (.ref q) (up M2 q (.lst (zipI xs ys)))
end
end DL
namespace DL
open PySem PySem.Spec PyProof.Rows L2
variable {K : PySem.W.Frag}
def stepJ (l : Option Int) (n : Int) (len : Nat) : List Nat := sliceRange (sliceBounds l none (some n) len).1 (sliceBounds l none (some n) len).2.1 (sliceBounds l none (some n) len).2.2
def pickJ {α : Type} (J : List Nat) (xs : List α) : List α := J.filterMap fun j => xs[j]?
section
variable {X : Cx}
def stepD (n : Int) : D → Option Int → Mp → DQ → Prop := fun x l M Q => ∃ a ds, x = .ref a ∧ M a = some (.lst ds) ∧ ∀ p, M p = none → Q (.ref p) (up M p (.lst (pickJ (stepJ l n ds.length) ds)))
def wStep (n : Int) (wa : WE) (wl : WO) : WE := fun ρ M Q => wa ρ M fun x M1 => wl ρ M1 fun l M2 => stepD n x l M2 Q
end
end DL
namespace DL
open PySem L2
variable {K : PySem.W.Frag}
section
variable {X : Cx} {a b : Expr} {wa wb : WE} {pos : Pos}
end
end DL
namespace DL
open PySem PySem.Spec PyProof.Rows L2
section
variable {P : Program} {w : World} {A : Around} {E : Value → Shared → Prop} {s : Shared}
abbrev MT (P : Program) (w : World) (h : Heap) (k : List Key) (b : Addr) : Prop := IsTupleKey (mixKind P w) h k b
abbrev mh (P : Program) (w : World) (k : List Key) : Int := tupleKeyHash (mixKind P w) k
abbrev MK := Addr × List Key
def mrows (P : Program) (w : World) (L : List MK) : List (Int × Value) := L.map fun p => (mh P w p.2, Value.ref p.1)
abbrev mhs (P : Program) (w : World) (L : List MK) : List Int := L.map fun p => mh P w p.2
structure MSet (P : Program) (w : World) (h : Heap) (a : Addr) (L : List MK) (es : Array (Int × Value)) (ep : Nat) (t : SetTable) : Prop where
  obj : ∃ o, h.get? a = some o ∧ o.ExactSet ∧ o.data = .set es ep t
  row : es.toList = mrows P w L
  tab : TabOk t (mhs P w L)
  uni : (L.map (·.2)).Nodup
  tup : ∀ p ∈ L, MT P w h p.2 p.1
  ord : w.params.followText "set-order" = true ∨ t.led = true
  gap : L.length * 5 < t.mask * 3
  few : L.length < 64
theorem mrows_len {L : List MK} {es : Array (Int × Value)} (h : es.toList = mrows P w L) : es.size = L.length := by
  rw [← Array.length_toList, h]; exact List.length_map _
variable {a : Addr} {L : List MK} {es : Array (Int × Value)} {ep : Nat} {t : SetTable}
theorem MSet.len (R : MSet P w s.heap a L es ep t) : es.size = L.length := mrows_len R.row
structure Fed (ks : List MK) (i : Nat) (L : List MK) : Prop where
  sub : ∀ p ∈ L, p ∈ ks.take i
  all : ∀ p ∈ ks.take i, p.2 ∈ L.map (·.2)
  len : L.length ≤ i
theorem Fed.step {ks L L2 : List MK} {i : Nat} {x : MK} (g : Fed ks i L) (h : ks[i]? = some x) (c : (x.2 ∈ L.map (·.2) ∧ L2 = L) ∨ (x.2 ∉ L.map (·.2) ∧ L2.Perm ((x.1, x.2) :: L))) : Fed ks (i + 1) L2 := by
  have e : ks.take (i + 1) = ks.take i ++ [x] := by rw [List.take_succ, h]; rfl
  have z := g.len
  rcases c with ⟨hm, rfl⟩ | ⟨hm, pm⟩
  · refine ⟨fun p hp => by rw [e]; exact List.mem_append.mpr (.inl (g.sub p hp)), fun p hp => ?_, by omega⟩
    rw [e] at hp
    rcases List.mem_append.mp hp with hp | hp
    · exact g.all p hp
    · rw [List.mem_singleton.mp hp]; exact hm
  · refine ⟨fun p hp => ?_, fun p hp => ?_, by rw [pm.length_eq]; exact Nat.succ_le_succ z⟩
    · rw [e]
      rcases List.mem_cons.mp (pm.mem_iff.mp hp) with rfl | hp
      · exact List.mem_append.mpr (.inr (.head _))
      · exact List.mem_append.mpr (.inl (g.sub p hp))
    · rw [e] at hp
      refine (pm.map (·.2)).mem_iff.mpr ?_
      rcases List.mem_append.mp hp with hp | hp
      · exact .tail _ (g.all p hp)
      · rw [List.mem_singleton.mp hp]; exact .head _
theorem MSet.keep {h h2 : Heap} (R : MSet P w h a L es ep t) (ha : ∀ o, h.get? a = some o → h2.get? a = some o) (tup : ∀ p ∈ L, MT P w h2 p.2 p.1) : MSet P w h2 a L es ep t := { R with obj := let ⟨o, h1, r⟩ := R.obj; ⟨o, ha o h1, r⟩, tup := tup }
end
end DL
namespace DL
open PySem PySem.Spec PyProof.Rows L2
section
variable {P : Program} {w : World} {A : Around} {E : Value → Shared → Prop} {s : Shared}
variable {a : Addr} {L : List MK} {es : Array (Int × Value)} {ep : Nat} {t : SetTable}
end
end DL
namespace DL
open PySem PySem.Spec PyProof.Rows L2
variable {K : PySem.W.Frag}
def MSet0 (P : Program) (w : World) (h : Heap) (a : Addr) (L : List MK) : Prop := ∃ (es : Array (Int × Value)) (ep : Nat) (t : SetTable), (∃ o, h.get? a = some o ∧ o.ExactSet ∧ o.data = .set es ep t) ∧ es.toList = mrows P w L ∧ TabOk t (mhs P w L) ∧ (L.map (·.2)).Nodup ∧
  (w.params.followText "set-order" = true ∨ t.led = true) ∧ L.length * 5 < t.mask * 3 ∧ L.length < 64
theorem MSet.bare {P : Program} {w : World} {h : Heap} {a : Addr} {L : List MK} {es : Array (Int × Value)} {ep : Nat} {t : SetTable} (R : MSet P w h a L es ep t) : MSet0 P w h a L := ⟨es, ep, t, R.obj, R.row, R.tab, R.uni, R.ord, R.gap, R.few⟩
section
variable {X : Cx}
end
end DL
namespace DL
open PySem PySem.Spec PyProof.Rows L2
section
variable {X : Cx}
end
end DL
namespace DL
open PySem PySem.Spec PyProof.Rows L2
section
variable {X : Cx} {k : Nat} {C : Addr} {S : Spec} {f : D → Mp → Bool}
structure NfM (k : Co) (C : Addr) (f : D → Mp → Bool) : Prop where
  ok : ∀ H M d v, RepM k.K H M → Rep k.K H d v → f d M = true → ∃ t, TyX k.K H v t ∧ PySem.W.notFirst k.K C t = true
end
end DL
namespace DL
open PySem PySem.Spec PyProof.Rows L2
inductive TyY (K : PySem.W.Frag) (H : Hp) : V → Value → Prop where
  | x {v : V} {t : Value} (h : TyX K H v t) : TyY K H v t
  | exc {a C : Addr} {d : Option Addr} (e : H a = some (exH a C d)) (hd : ∀ dd, d = some dd → ∃ fs, H dd = some (.xd fs)) (hC : ExcC K C) : TyY K H (.ref a) (.ref C)
section
variable {X : Cx} {pins : List (Addr × Obj)} {σ : L2.St} {H : Hp} {s : Shared} {a C : Addr} {d : Option Addr}
theorem exc_inst (I : Inv X pins σ H s) (e : H a = some (exH a C d)) (hd : ∀ dd, d = some dd → ∃ fs, H dd = some (.xd fs)) : ∃ oe od, PySem.W.InstAt s.heap a oe C od := by
  obtain ⟨⟨oe, vs, h1, h2, h3, h4⟩, _⟩ := (show ObjOk X.prog X.w H s.heap a (exH a C d) from I.hok a _ e)
  cases d with
  | none => exact ⟨oe, none, h1, h2, by unfold PySem.W.notCls; rw [h4] <;> rfl, by rw [h3]; trivial⟩
  | some dd =>
    obtain ⟨fs, e2⟩ := hd dd rfl
    obtain ⟨mA, hns, _⟩ := (show ObjOk X.prog X.w H s.heap dd (.xd fs) from I.hok dd _ e2)
    obtain ⟨od, ho, _⟩ := lookIn_ns hns
    exact ⟨oe, some od, h1, h2, by unfold PySem.W.notCls; rw [h4] <;> rfl, by rw [h3]; exact ho⟩
theorem kit_ofY {x : V} {u t : Value} (I : Inv X pins σ H s) (rx : RelV x u) (ty : TyY X.K H x t) : ∃ P : Heap → Prop, PySem.W.KitX X.K u t P ∧ P s.heap ∧ u ≠ .builtin "__main__.__loader__#opaque" := by
  cases ty with
  | x h => exact kit_of I rx h
  | @exc a C d e hd hC =>
    cases (show u = Value.ref a from rx)
    obtain ⟨oe, od, J⟩ := exc_inst I e hd
    have hcl : (PySem.W.clsIn X.K C).isSome = true := by
      obtain ⟨cd, hc, _⟩ := PySem.W.any_some hC.hd
      rw [hc]; rfl
    exact ⟨_, PySem.W.kitx_exc hcl hC.hg hC.hk hC.hs hC.ha hC.hn hC.ht hC.hm, J, fun z => nomatch z⟩
def rIsiY (K : PySem.W.Frag) : List V → Hp → VK → Prop := fun xs H Q => ∃ (x c : V) (t u : Value) (b : Bool), xs = [x, c] ∧ ClsV c u ∧ TyY K H x t ∧ PySem.W.kitOne K t u = some b ∧ Q (.bl b) H
theorem call_isiY : CallR X (.builtin "isinstance") (rIsiY X.K) := by
  intro pins s σ H xs us Q I r h
  obtain ⟨x, c, t, u, b, rfl, k, ty, e, q⟩ := h
  obtain ⟨u1, u2, rfl, r1, r2⟩ := vals2 r
  have e2 := k.eq r2
  subst e2
  obtain ⟨P, Z, p, hx⟩ := kit_ofY I r1 ty
  exact PySem.W.kia_one Z I.kIn p e hx fun tk => ⟨.bl b, H, I.tok tk, rfl, q⟩
structure Xf (K : PySem.W.Frag) (C : Addr) (f : Str) : Prop where
  xf : XfC K C
  no : PySem.W.findIn K (.ref C) f = some none
def xfD (C : Addr) (f : Str) : D → Mp → DQ → Prop := fun x M Q => ∃ a dd fs d, x = .ref a ∧ M a = some (.exo C (some dd)) ∧ M dd = some (.exd fs) ∧ fs.lookup f = some d ∧ Q d M
variable {e : Expr} {te : TE} {pos : Pos} {n : Str}
theorem pe_xfH (T : Xf X.K C n) (he : PE X e te) (hb : attributeBase e n X.env (eval e X.env) = eval e X.env) :
    PE X (.Attribute e n pos) (fun σ H Q => te σ H fun x H1 => ∃ a dd fs v, x = .ref a ∧ H1 a = some (exH a C (some dd)) ∧ H1 dd = some (.xd fs) ∧ fs.lookup n = some v ∧ Q v H1) := by
  refine ⟨fun pins s σ H Q I h => ?_⟩
  refine attr_of hb (thn (he.run pins s σ H _ I h) fun u s1 hh => ?_)
  obtain ⟨x, H1, I1, rx, a, dd, fs, v, ex, e1, e2, l, q⟩ := hh
  subst ex
  obtain rfl : u = Value.ref a := rx
  obtain ⟨⟨oe, vs, h1, h2, h3, h4⟩, _⟩ := (show ObjOk X.prog X.w H1 s1.heap a (exH a C (some dd)) from I1.hok a _ e1)
  obtain ⟨mA, hns, hr⟩ := (show ObjOk X.prog X.w H1 s1.heap dd (.xd fs) from I1.hok dd _ e2)
  obtain ⟨od, ho, hl⟩ := lookIn_ns hns
  obtain ⟨u, hu, ru⟩ := RelO.some_of (v := v) (o := mA n) (by rw [← l]; exact hr n)
  have J : PySem.W.InstAt s1.heap a oe C (some od) := ⟨h1, h2, by unfold PySem.W.notCls; rw [h4] <;> rfl, by rw [h3]; exact ho⟩
  exact HandSPX.exc_get I1.kIn J T.xf.ga T.xf.gg T.xf.exC (PySem.W.findObj_own T.xf.hdC T.no rfl (by rw [hl, hu])) (handed_of ru) ⟨v, H1, I1.tok _, ru, q⟩
theorem pd_xf {a : Expr} {wa : WE} {f : Str} (T : Xf X.K C f) (ha : PE X a (tD X.K wa)) (hb : plainBase a = true) : PE X (.Attribute a f pos) (tD X.K (w1 (xfD C f) wa)) := (pe_xfH T ha (base_plain hb _ _ _)).imp fun σ H Q => by
  rintro ⟨ρ, M, F, Q0, s, q, g⟩
  refine ⟨ρ, M, F, _, s, q, fun x M1 v H1 q1 t1 f1 r1 p1 => ?_⟩
  obtain ⟨a, dd, fs, d, rfl, e1, e2, l, q1⟩ := q1
  cases p1
  obtain ⟨vs, e3, ps⟩ := r1 _ _ e2
  obtain ⟨v, l1, rv⟩ := ps.lookup l
  exact ⟨a, dd, vs, v, rfl, r1 _ _ e1, e3, l1, g _ M1 _ H1 q1 t1 f1 r1 rv⟩
end
end DL
namespace DL
open PySem PySem.Spec PyProof.Rows L2
section
variable {X : Cx}
end
def scGo (T : DIt) (g : Tg) (we : WE) (ρ : Ro) (fin : List Int → Mp → Prop) : List D → List Int → Mp → Prop
  | [], acc, M => T.keep M ∧ fin acc M
  | x :: xs, acc, M => T.keep M ∧ ∃ ρ1, g.asn x ρ = some ρ1 ∧ we ρ1 M fun d M2 => ∃ k : Int, d = .int k ∧ 0 ≤ k ∧ k < 60 ∧ scGo T g we ρ fin xs (acc ++ [k]) M2
def wSc (wi : WI) (g : Tg) (we : WE) (vs : List Nat) : WE := fun ρ M Q => wi ρ M fun T M1 => scGo T g we (wipeD ρ vs) (fun ns M2 => ∀ (out : List Int) (q : Addr), out.Pairwise (· < ·) → (∀ i : Int, i ∈ out ↔ i ∈ ns) → M2 q = none → Q (.ref q) (up M2 q (.lst (out.map D.int)))) T.items [] M1
theorem set_no {w : World} {a b : Addr} {S : Int → Bool} {n : Nat} : NoO a (SetO w b S n) := by
  refine ⟨fun q z => ?_, fun _ z => (by unfold SetO at z; cases z)⟩
  unfold SetO at z
  refine code_ne (fun h hh => ?_) z
  obtain ⟨o, es, ep, t, e, _, d, _⟩ := hh
  exact ⟨b, o, e, fun z => by rw [z] at d; cases d⟩
theorem TupS.set {K : PySem.W.Frag} {w : World} {H : Hp} {a b : Addr} {o : HO} {S : Int → Bool} {n : Nat} (h : H a = some (SetO w b S n)) : TupS K H (upd H a o) := .at_ (.of h (fun _ z => by cases z) (fun _ _ z => by cases z) (h4 := fun _ z => by unfold SetO at z; cases z) fun q z => set_no.1 q (Option.some.inj z))
structure SetIs (H : Hp) (w : World) (D : Addr) (ns : List Int) (S : Int → Bool) (n : Nat) : Prop where
  at_ : H D = some (SetO w D S n)
  mem : ∀ k : Int, S k = true ↔ k ∈ ns
  few : ∃ us : List Int, us.Nodup ∧ us.length = n ∧ ∀ k : Int, k ∈ us ↔ k ∈ ns
  low : ∀ k ∈ ns, 0 ≤ k ∧ k < 60
theorem SetIs.lt {H : Hp} {w : World} {D : Addr} {ns : List Int} {S : Int → Bool} {n : Nat} (s : SetIs H w D ns S n) : n ≤ 60 := by
  obtain ⟨us, nd, rfl, hm⟩ := s.few
  exact few_of (N := 60) nd fun k hk => s.low k ((hm k).mp hk)
section
variable {X : Cx}
end
end DL
namespace DL
open PySem PySem.Spec PySem.SeqAt PyProof.Rows L2
theorem str_eq_declines_obj (b : Str) (u : Tok) (l : Addr) (c : Value) (es) (ep : Nat) (dd : Option Addr) (sl : Array (Option Value)) :
    Meets (Builtin.«str.__eq__» ⟨[.str b u, .ref l], []⟩) (fun _ R s => s.heap.get? l = some { cls := c, dict := dd, data := .dict es ep, slots := sl } ∧ R (.ok (.ret .notImplemented)) s) :=
  .of_wp fun prog w A R s h => by obtain ⟨hp, g, d, tk, os⟩ := s; obtain ⟨hl, h⟩ := h; wp_walk using wpAny_loadPart' hl, wpAny_load hl; exact ⟨_, rfl, h⟩
theorem dict_eq_declines_str (l : Addr) (da : PySem.Data) (dd : Option Addr) (sl : Array (Option Value)) (b : Str) (u : Tok) :
    Meets (Builtin.«dict.__eq__» ⟨[.ref l, .str b u], []⟩) (fun _ R s => s.heap.get? l = some { cls := .type "dict", dict := dd, data := da, slots := sl } ∧ R (.ok (.ret .notImplemented)) s) :=
  .of_wp fun prog w A R s h => by obtain ⟨hp, g, d, tk, os⟩ := s; obtain ⟨hl, h⟩ := h; have f1 := F.sub_str_dict; wp_walk using wpAny_loadPart' hl; exact ⟨_, rfl, h⟩
theorem rc_str_dict {A : Around} {s : Shared} {l : Addr} {o : Obj} {es} {ep : Nat} (b : Str) (u : Tok) (hl : s.heap.get? l = some o) (hc : o.cls = .type "dict") (he : o.data = .dict es ep) (hu : A.units < cLine) : RcAt A s (.str b u) (.ref l) false := fun prog w E Q h => by
  obtain ⟨cls, dd, data, sl⟩ := o
  simp only at hc he
  subst hc he
  exact rc_eq_decline_or (k := false) (typeIs_str s b u) ⟨_, hl, rfl⟩ (by decide) F.sub_dict_str F.slot_str_eq F.slot_dict_eq_refl
    (fun _ hq => call_meets F.slot_str_eq (typeIs_str s b u) F.entry_str_eq (F.args_str_eq_2 _ _) (str_eq_declines_obj b u l (.type "dict") es ep dd sl) ⟨hl, hq⟩)
    (fun _ hq => call_meets F.slot_dict_eq_refl ⟨_, hl, rfl⟩ F.entry_dict_eq (F.args_dict_eq_2 _ _) (dict_eq_declines_str l (.dict es ep) dd sl b u) ⟨hl, hq⟩)
    (fun _ hq => wpAny_of_eq (rfl : isSame (.str b u) (.ref l) = pure false) hq) (.inr hu) h
section
variable {X : Cx}
theorem op_eqTD (hu : X.A.units < cLine) : OpR X (compareOp .Eq) (fun x y H Q => ∃ z d kvs, x = .str z ∧ y = .ref d ∧ H d = some (.dK kvs) ∧ Q (.bl false) H) := by
  intro pins s σ H x y v u Q I rx ry h
  obtain ⟨z, d, kvs, rfl, rfl, hH, q⟩ := h
  obtain ⟨t, rfl⟩ := rx
  cases ry
  obtain ⟨_, _, vs, _, hD⟩ := (show ObjOk X.prog X.w H s.heap d (.dK kvs) from I.hok d _ hH)
  obtain ⟨o, es, n, e, hx, hd, _⟩ := hD
  exact rc_str_dict z t e hx.1 hd hu X.prog X.w _ _ ⟨.bl false, H, I, rfl, q⟩
theorem tuple_eq0 (l b : Addr) (items : Array Value) (n n2 : Nat) (dd dd2 : Option Addr) (sl sl2 : Array (Option Value)) :
    Meets (Builtin.«tuple.__eq__» ⟨[.ref l, .ref b], []⟩) (fun _ R s => s.heap.get? l = some { cls := .type "tuple", dict := dd, data := .seq items n, slots := sl } ∧ s.heap.get? b = some { cls := .type "tuple", dict := dd2, data := .seq #[] n2, slots := sl2 } ∧ R (.ok (.ret (.bool (decide (items.size = 0))))) s) :=
  .of_wp fun prog w A R s h => by
    obtain ⟨hp, g, d, tk, os⟩ := s
    obtain ⟨hl, hb, h⟩ := h
    have f2 := AutoSeq1.sub_tuple_tuple
    have hz : items.toList.zip (#[] : Array Value).toList = [] := by simp
    wp_walk using wpAny_loadPart' hl, wpAny_loadPart' hb, wpAny_forIn_list _ (fun rest b s' => b.1 = none ∧ rest = [] ∧ R (.ok (.ret (.bool (decide (items.size = 0))))) s') _
    case turn =>
      rintro ⟨y, x⟩ rest b s' ⟨_, e, _⟩
      cases e
    case fin =>
      rintro ⟨b1, b2⟩ s' ⟨hb', _, hI⟩
      simp only at hb'
      subst hb'
      wp_walk
      have e : decide (items.size = 0) = (items.size == 0) := by rw [Bool.eq_iff_iff, decide_eq_true_iff, beq_iff_eq]
      rw [e] at hI
      exact ⟨_, rfl, hI⟩
    case h => exact ⟨rfl, hz, h⟩
def eqTD : D → D → Mp → DQ → Prop := fun x y M Q => eqD false x y M Q ∨ (∃ z d kvs, x = .str z ∧ y = .ref d ∧ M d = some (.dK kvs) ∧ Q (.bl false) M) ∨ ∃ xs, x = .tup xs ∧ y = .tup [] ∧ Q (.bl xs.isEmpty) M
theorem op_eqT0 (hu : X.A.units < cLine) : OpR X (compareOp .Eq) (fun x y H Q => ∃ a b xs, x = .ref a ∧ y = .ref b ∧ SqT X.K H a xs ∧ SqT X.K H b [] ∧ Q (.bl xs.isEmpty) H) := by
  intro pins s σ H x y v u Q I rx ry h
  obtain ⟨a, b, xs, rfl, rfl, h1, h2, q⟩ := h
  cases rx
  cases ry
  obtain ⟨its, o, n, hv, ho, hc, hd⟩ := sqT_at I.hok I.kIn h1
  obtain ⟨its2, o2, n2, hv2, ho2, hc2, hd2⟩ := sqT_at I.hok I.kIn h2
  obtain ⟨cls, dd, data, sl⟩ := o
  obtain ⟨cls2, dd2, data2, sl2⟩ := o2
  simp only at hc hd hc2 hd2
  subst hc hd hc2 hd2
  cases hv2
  have e : decide (its.toArray.size = 0) = xs.isEmpty := by
    have := hv.length
    cases xs with
    | nil => cases hv; rfl
    | cons x xs => cases hv; rfl
  refine wpAny_richCompare_same_room (op := .Eq) ⟨_, ho, rfl⟩ ⟨_, ho2, rfl⟩ F.slot_tuple_eq (call_meets F.slot_tuple_eq ⟨_, ho, rfl⟩ F.entry_tuple_eq (F.args_tuple_eq_2 _ _) (tuple_eq0 a b its.toArray n n2 dd dd2 sl sl2) ⟨ho, ho2, ?_⟩) hu
  rw [e]
  exact ⟨(fun x => nomatch x), .bl xs.isEmpty, H, I, rfl, q⟩
theorem od_eqTD (hu : Ru X) : OpR X (compareOp .Eq) (rD X.K eqTD) := fun pins s σ H x y v u Q I rx ry h => by
  obtain ⟨dx, dy, M, F, Q0, r1, r2, m, fr, h | ⟨z, d, kvs, rfl, rfl, hM, hq⟩ | ⟨xs, rfl, rfl, hq⟩, g⟩ := h
  · exact od_eq hu pins s σ H x y v u Q I rx ry ⟨dx, dy, M, F, Q0, r1, r2, m, fr, h, g⟩
  · cases r1; cases r2
    obtain ⟨vs, q1, p1⟩ := m _ _ hM
    exact op_eqTD (by have := hu; omega) pins s σ H _ _ v u Q I rx ry ⟨z, d, _, rfl, rfl, q1, g _ M _ H hq (.refl _) fr.frm m rfl⟩
  · unfold Rep at r1 r2
    obtain ⟨b, vs, rfl, sq, rs⟩ := r1
    obtain ⟨b2, vs2, rfl, sq2, rs2⟩ := r2
    cases rs2
    have e : vs.isEmpty = xs.isEmpty := by
      cases xs with
      | nil => unfold Reps at rs; subst rs; rfl
      | cons x xs => unfold Reps at rs; obtain ⟨w, ws, rfl, _⟩ := rs; rfl
    refine op_eqT0 (by have := hu; omega) pins s σ H _ _ v u Q I rx ry ⟨b, b2, vs, rfl, rfl, sq, sq2, ?_⟩
    rw [e]
    exact g _ M _ H hq (.refl _) fr.frm m rfl
end
end DL
namespace DL
open PySem PySem.Spec PyProof.Rows L2
variable {K : PySem.W.Frag}
section
variable {X : Cx}
def wStepV (wa : WE) (wl ws : WO) : WE := fun ρ M Q => wa ρ M fun x M1 => wl ρ M1 fun l M2 => ws ρ M2 fun o M3 => ∃ n, o = some n ∧ n ≠ 0 ∧ stepD n x l M3 Q
end
end DL
namespace DL
open PySem PySem.Spec PySem.SeqAt PyProof.Rows L2
section
variable {X : Cx}
def neTD : D → D → Mp → DQ → Prop := fun x y M Q => eqD true x y M Q ∨ ∃ z d kvs, x = .tup [.str z, .ref d] ∧ y = .tup [.str z, .ref d] ∧ M d = some (.dK kvs) ∧ Q (.bl false) M
def inTD (neg : Bool) : D → D → Mp → DQ → Prop := fun x y M Q => inD neg x y M Q ∨ ∃ d kvs p, ∃ zs : List Str, x = .ref d ∧ M d = some (.dK kvs) ∧ y = .ref p ∧ M p = some (.lst (zs.map D.str)) ∧ Q (.bl neg) M
inductive CmpY where | ne | in_ | notIn
def cmpYF : CmpY → D → D → Mp → DQ → Prop | .ne => neTD | .in_ => inTD false | .notIn => inTD true
def upperM : MSpec := fun x ds M Q => ∃ z : Str, x = .str z ∧ ds = [] ∧ z.length ≤ 5592405 ∧ Q (.str (Txt.upper z)) M
theorem md_upper : MtR X "str.upper" (rDM X.K upperM) := mt_upper.lift fun d ds M F H Q0 Q v vs r0 r1 m fr h g => by
  obtain ⟨z, rfl, rfl, hz, h⟩ := h
  cases r0
  have hv : vs = [] := by unfold Reps at r1; exact r1
  subst hv
  exact ⟨z, rfl, rfl, hz, g _ M _ H h (.refl _) fr.frm m rfl⟩
theorem pd_upper {a : Expr} {wa : WE} {apos pos : Pos} (ho : PE X a (tD X.K wa)) (hb : plainBase a = true) (hline : (apos.endLine == pos.line) = true) : PE X (.Call (.Attribute a "upper" apos) [] [] pos) (tD X.K (wBm "str" upperM wa wNil)) :=
  pd_bm0 PySem.F.plainAttrs_str PySem.F.slot_str_upper PySem.F.type_str_upper md_upper ho hb hline
end
end DL
namespace DL
open PySem PySem.Spec PyProof.Rows L2
def getDM : MSpec := fun x ds M Q => ∃ a kvs y k dd, x = .ref a ∧ M a = some (.dK kvs) ∧ ds = [y, dd] ∧ keyD y = some k ∧ Q ((atL kvs k).getD dd) M
theorem look_all {K : PySem.W.Frag} {H : Hp} {k : Key} : ∀ {ds : List (Key × D)} {vs : List (Key × V)}, Pairs K H ds vs → (atL ds k = none ∧ valV vs k = none) ∨ ∃ d v, atL ds k = some d ∧ valV vs k = some v ∧ Rep K H d v
  | [], _, h => by
    unfold Pairs at h
    subst h
    exact .inl ⟨rfl, rfl⟩
  | (j, c) :: ds, _, h => by
    unfold Pairs at h
    obtain ⟨v, r, rfl, h1, h2⟩ := h
    unfold atL valV
    rw [List.find?_cons, List.find?_cons]
    by_cases q : j = k
    · simp only [q, decide_true]
      exact .inr ⟨c, v, rfl, rfl, h1⟩
    · simp only [q, decide_false]
      exact look_all h2
section
variable {X : Cx}
theorem md_getD (hu : Ru X) : MtR X "dict.get" (rDM X.K getDM) := fun pins s σ H x xs v us Q I rx rxs h => by
  have hu1 : X.A.units + 1 < cLine := by have := hu; omega
  obtain ⟨d0, ds, M, F, Q0, r0, r1, m, fr, ⟨a, kvs, y, k, dd, rfl, e, rfl, ek, q⟩, g⟩ := h
  cases r0
  cases (show v = Value.ref a from rx)
  obtain ⟨u, w, rfl, r2, r3⟩ := r1.two
  obtain ⟨vs, e1, ps⟩ := m _ _ e
  obtain rfl := keyD_rep ek r2
  cases rxs with
  | cons ry rt =>
    cases rt with
    | cons rw rn =>
      cases rn
      refine d_get2 (A := X.A) hu1 I (o := valV vs k) (d := w) (.inl ⟨vs, k, .inl e1, rfl, rfl⟩) ry rw fun w' s' I' rw' => ?_
      rcases look_all (k := k) ps with ⟨h1, h2⟩ | ⟨dv, v', h1, h2, h3⟩
      · rw [h1] at q
        rw [h2] at rw'
        exact ⟨w, H, I', rw', g _ _ _ _ q (.refl _) fr.frm m r3⟩
      · rw [h1] at q
        rw [h2] at rw'
        exact ⟨v', H, I', rw', g _ _ _ _ q (.refl _) fr.frm m h3⟩
end
end DL
namespace DL
open PySem PySem.Spec PyProof.Rows L2
variable {K : PySem.W.Frag}
section
variable {X : Cx} {o : Expr} {f : Str} {pos : Pos} {to : TE}
end
section
variable {X : Cx} {a1 a2 b : Expr} {wa1 wa2 wb : WE}
def wParF (C : Addr) (f1 f2 : Str) (wo1 wo2 we : WE) : WS := fun D0 ρ M => we ρ M fun d M1 => ∃ d1 d2, d = .tup [d1, d2] ∧ wo1 ρ M1 fun x M2 => ∃ p fs, x = .ref p ∧ M2 p = some (.ins C fs) ∧ fs.length < 1000 ∧ wo2 ρ (up M2 p (.ins C (putD f1 d1 fs))) fun y M3 => ∃ p' fs', y = .ref p' ∧ M3 p' = some (.ins C fs') ∧ fs'.length < 1000 ∧ D0.nx ρ (up M3 p' (.ins C (putD f2 d2 fs')))
end
end DL
namespace DL
open PySem PySem.Spec PyProof.Rows L2
section
variable {prog : Program} {w : World} {A : Around} {R : Result → Shared → Prop} {s : Shared} {kx vx t0 i0 t1 i1 : Expr} {ifs0 ifs1 : List Expr} {scope : Scope} {pos : Pos} {it acc : Value} {D : Addr} {env : Env}
end
section
variable {X : Cx}
end
section
variable {K : PySem.W.Frag}
structure DcS (K : PySem.W.Frag) (F : Addr → Prop) (D : Addr) (H H1 : Hp) (kd : DcK) (acc : MO) (M : Mp) (H' : Hp) : Prop where
  is : kd.is acc
  at_ : RepO K H' D acc
  rm : RepM K H' M
  fr : FrOk (fun a => F a ∨ a = D) H' M
  t0 : TupS K H H'
  f0 : Frm F H H' M
  t1 : TupS K H1 H'
theorem DcS.step {F : Addr → Prop} {D : Addr} {H H1 H2 H3 : Hp} {kd : DcK} {acc : MO} {M2 M3 : Mp} (s : DcS K F D H H1 kd acc M2 H2) (t : TupS K H2 H3) (f : Frm (fun a => F a ∨ a = D) H2 H3 M3) (r : RepM K H3 M3) : DcS K F D H H1 kd acc M3 H3 :=
  ⟨s.is, s.at_.stay t (by rw [(f D (.inr rfl)).1]), r, s.fr.next f, s.t0.trans t, s.f0.trans fun a ha => f a (.inl ha), s.t1.trans t⟩
section
variable {X : Cx} {pos : Pos}
end
end
end DL
namespace DL
open PySem PySem.Spec PyProof.Rows L2
variable {K : PySem.W.Frag}
def splitM : MSpec := fun x ds M Q => ∃ a b : Str, x = .str a ∧ ds = [.str b] ∧ (b.length == 0) = false ∧ a.length + 2 ≤ sizeLine ∧ ∀ q, M q = none → Q (.ref q) (up M q (.lst ((Txt.split a b).map D.str)))
theorem Reps.ofStrs {H : Hp} : ∀ ys : List Str, Reps K H (ys.map D.str) (ys.map V.str)
  | [] => by unfold Reps; rfl
  | y :: ys => by
    rw [List.map_cons, List.map_cons]
    unfold Reps
    exact ⟨_, _, rfl, rfl, Reps.ofStrs ys⟩
section
variable {X : Cx}
theorem md_split : MtR X "str.split" (rDM X.K splitM) := mt_split.lift fun d ds M F H Q0 Q v vs r0 r1 m fr h g => by
  obtain ⟨a, b, rfl, rfl, hb, hz, h⟩ := h
  cases r0
  obtain ⟨u, rfl, r2⟩ := r1.one
  cases r2
  exact ⟨a, b, rfl, rfl, hb, hz, fun l hl => g _ _ _ _ (h l (m.none hl)) (.new hl) (fr.new hl _) (m.new hl ⟨_, upd_same, Reps.ofStrs _⟩) rfl⟩
end
def stripM : MSpec := fun x ds M Q => ∃ a b : Str, x = .str a ∧ ds = [.str b] ∧ a.length ≤ sizeLine ∧ Q (.str (Txt.stripChars a b)) M
section
variable {X : Cx}
theorem md_strip : MtR X "str.strip" (rDM X.K stripM) := mt_stripChars.lift fun d ds M F H Q0 Q v vs r0 r1 m fr h g => by
  obtain ⟨a, b, rfl, rfl, hz, h⟩ := h
  cases r0
  obtain ⟨u, rfl, r2⟩ := r1.one
  cases r2
  exact ⟨a, b, rfl, rfl, hz, g _ M _ H h (.refl _) fr.frm m rfl⟩
end
def intTS : Spec := fun ds M Q => ∃ (a : Str) (n : Int), ds = [.str a] ∧ PySem.intText? a = some n ∧ a.length ≤ 640 ∧ Q (.int n) M
theorem cd_intT {X : Cx} : CallR X (.type "int") (rDL X.K intTS) := call_int_str.lift fun ds M F H Q0 Q vs r m fr h g => by
  obtain ⟨a, n, rfl, hn, hz, q⟩ := h
  obtain ⟨v, rfl, rr⟩ := r.one
  obtain rfl : v = V.str a := rr
  exact ⟨a, n, rfl, hn, hz, g _ M _ H q (.refl _) fr.frm m rfl⟩
section
open PySem.W
variable {prog : Program} {w : World} {A : Around} {E : Value → Shared → Prop} {s : Shared}
end
section
variable {X : Cx}
variable {b : Expr} {wb : WE}
def wStarA (i j : Nat) (we : WE) : WS := fun D0 ρ M => we ρ M fun d M1 => ∃ p x xs, d = .ref p ∧ M1 p = some (.lst (x :: xs)) ∧ xs.length ≤ 16000 ∧ ∀ q, M1 q = none → D0.nx ((ρ.set i (some x)).set j (some (.ref q))) (up M1 q (.lst xs))
end
end DL
namespace DL
open PySem L2
inductive Blt where | len | tuple | list | all | any | sum | max | min | abs | int | sorted | repr | dict | str | bool | intT
def Blt.isRepr : Blt → Bool | .repr => true | _ => false
def Blt.nm : Blt → Str
  | .len => "len" | .tuple => "tuple" | .list => "list" | .all => "all" | .any => "any" | .sum => "sum" | .max => "max" | .min => "min" | .abs => "abs" | .int => "int" | .sorted => "sorted" | .repr => "repr" | .dict => "dict" | .str => "str" | .bool => "bool" | .intT => "int"
def Blt.spec : Blt → Spec
  | .len => lenS | .tuple => tupleS | .list => listS | .all => allS | .any => anyS | .sum => sumS | .max => maxS | .min => minS | .abs => absS | .int => intS | .sorted => sortedS | .repr => reprS | .dict => dictS | .str => strS | .bool => boolS | .intT => intTS
section
variable {X : Cx} {a b c : Expr} {wa wb wc : WE} {pos p : Pos}
theorem callB_pe {id : String} {S : Spec} {x : Str} {e : Expr} {es : List Expr} {u : WA} (hr : CallR X (.builtin id) (rDL X.K S)) (hv : bootBuiltins x = some (.builtin id)) (hn : x ≠ "__name__") (hdb : (x == ("__debug__" : Str)) = false) (hg : Gl X x) (hm : X.mg x = none) (ha : PA X (e :: es) (tDA X.K u)) (hs : (e :: es).all notStar = true) :
    PE X (.Call (.Name x p) (e :: es) [] pos) (tD X.K (wCall S u)) := by
  have hs' := hs
  rw [List.all_cons, Bool.and_eq_true] at hs'
  exact (pe_callB hr hg hm hv ha hn hdb (star_of hs'.1 _ _) (back_any hs'.2)).imp fun _ _ _ h => callB_of h
theorem callT_pe {T : String} {S : Spec} {x : Str} {e : Expr} {es : List Expr} {u : WA} (hr : CallR X (.type T) (rDL X.K S)) (hv : bootBuiltins x = some (.type T)) (hn : x ≠ "__name__") (hdb : (x == ("__debug__" : Str)) = false) (hg : Gl X x) (hm : X.mg x = none) (ha : PA X (e :: es) (tDA X.K u)) (hs : (e :: es).all notStar = true) :
    PE X (.Call (.Name x p) (e :: es) [] pos) (tD X.K (wCall S u)) := by
  have hs' := hs
  rw [List.all_cons, Bool.and_eq_true] at hs'
  exact (pe_callTy hr hg hm hv ha hn hdb (star_of hs'.1 _ _) (back_any hs'.2)).imp fun _ _ _ h => callB_of h
theorem Blt.pe (bl : Blt) {e : Expr} {es : List Expr} {u : WA} (hu : Ru X) (hc : X.calm = true) (hgd : bl.isRepr = true → X.A.guards = some []) (hg : Gl X bl.nm) (hm : X.mg bl.nm = none) (ha : PA X (e :: es) (tDA X.K u)) (hs : (e :: es).all notStar = true) : PE X (.Call (.Name bl.nm p) (e :: es) [] pos) (tD X.K (wCall bl.spec u)) := by
  cases bl
  · exact callB_pe cd_len PySem.boot_len (by decide) (by decide) hg hm ha hs
  · exact callT_pe cd_tuple PyProof.Rows.boot_tuple (by decide) (by decide) hg hm ha hs
  · exact callT_pe (cd_list hc) PyProof.Rows.boot_list (by decide) (by decide) hg hm ha hs
  · exact callB_pe (cd_all hc) (by decide +kernel) (by decide) (by decide) hg hm ha hs
  · exact callB_pe (cd_any hc) (by decide +kernel) (by decide) (by decide) hg hm ha hs
  · exact callB_pe (cd_sum hc) PyProof.Rows.boot_sum (by decide) (by decide) hg hm ha hs
  · exact callB_pe (cd_max hc) PyProof.Rows.boot_max (by decide) (by decide) hg hm ha hs
  · exact callB_pe (cd_min hc) PyProof.Rows.boot_min (by decide) (by decide) hg hm ha hs
  · exact callB_pe cd_abs (by decide +kernel) (by decide) (by decide) hg hm ha hs
  · exact callT_pe cd_int PyProof.Rows.boot_int (by decide) (by decide) hg hm ha hs
  · exact callB_pe (cd_sorted hu) PyProof.Rows.boot_sorted (by decide) (by decide) hg hm ha hs
  · exact callB_pe (cd_repr (hgd rfl) hu) (by decide +kernel) (by decide) (by decide) hg hm ha hs
  · exact callT_pe (cd_dict hc) (by decide +kernel) (by decide) (by decide) hg hm ha hs
  · exact callT_pe cd_str PyProof.Rows.boot_str (by decide) (by decide) hg hm ha hs
  · exact callT_pe cd_bool (by decide +kernel) (by decide) (by decide) hg hm ha hs
  · exact callT_pe cd_intT PyProof.Rows.boot_int (by decide) (by decide) hg hm ha hs
end
inductive Bm where | append | extend | join | index | popAt | count | getD | split | strip
def Bm.nm : Bm → Str | .append => "append" | .extend => "extend" | .join => "join" | .index => "index" | .popAt => "pop" | .count => "count" | .getD => "get" | .split => "split" | .strip => "strip"
def Bm.ty : Bm → String | .append => "list" | .extend => "list" | .join => "str" | .index => "list" | .popAt => "list" | .count => "list" | .getD => "dict" | .split => "str" | .strip => "str"
def Bm.spec : Bm → MSpec | .append => appendM | .extend => extendM | .join => joinM | .index => indexL | .popAt => popAtM | .count => countM | .getD => getDM | .split => splitM | .strip => stripM
theorem Bm.pe (m : Bm) {X : Cx} (hu : Ru X) {a e : Expr} {es : List Expr} {wa : WE} {u : WA} {pos apos : Pos} (ho : PE X a (tD X.K wa)) (ha : PA X (e :: es) (tDA X.K u)) (hb : plainBase a = true) (hs : (e :: es).all notStar = true) (hl : (e :: es).length < 30) (hline : (apos.endLine == pos.line) = true) :
    PE X (.Call (.Attribute a m.nm apos) (e :: es) [] pos) (tD X.K (wBm m.ty m.spec wa u)) := by
  cases m
  · exact pd_bm PySem.F.plainAttrs_list PySem.F.slot_list_append PySem.F.type_list_append md_append ho ha hb hs hl hline
  · exact pd_bm PySem.F.plainAttrs_list PySem.F.slot_list_extend PySem.F.type_list_extend md_extend ho ha hb hs hl hline
  · exact pd_bm PySem.F.plainAttrs_str PySem.F.slot_str_join PySem.F.type_str_join md_join ho ha hb hs hl hline
  · exact pd_bm PySem.F.plainAttrs_list PySem.F.slot_list_index PySem.F.type_list_index (md_indexL hu) ho ha hb hs hl hline
  · exact pd_bm PySem.F.plainAttrs_list PySem.F.slot_list_pop PySem.F.type_list_pop md_popAt ho ha hb hs hl hline
  · exact pd_bm PySem.F.plainAttrs_list PySem.F.slot_list_count PySem.F.type_list_count (md_count hu) ho ha hb hs hl hline
  · exact pd_bm PySem.F.plainAttrs_dict PySem.F.slot_dict_get PySem.F.type_dict_get (md_getD hu) ho ha hb hs hl hline
  · exact pd_bm PySem.F.plainAttrs_str PySem.F.slot_str_split PySem.F.type_str_split md_split ho ha hb hs hl hline
  · exact pd_bm PySem.F.plainAttrs_str PySem.F.slot_str_strip PySem.F.type_str_strip md_strip ho ha hb hs hl hline
structure Sc where
  N : List Str
  sc : Scope
  fn : Str → Bool
structure Gd (c : Sc) (X : Cx) : Prop where
  n : X.N = c.N
  nd : X.N.Nodup
  sc : X.env.scope = c.sc
  fn : X.fn = c.fn
  calm : X.calm = true
  ru : Ru X
  cq : ∀ st, X.A.frames = some st → ∃ e o, st = e :: o ∧ X.env.code = e.code ∧ X.env.qual = e.qual
theorem deeper_cq {A : Around} {env : Env} : ∀ st, (A.deeper env).frames = some st → ∃ e o, st = e :: o ∧ env.code = e.code ∧ env.qual = e.qual := fun st h => by
  have h : A.frames.map (env :: ·) = some st := h
  cases e : A.frames with
  | none => rw [e] at h; cases h
  | some o => rw [e] at h; cases h; exact ⟨env, o, rfl, rfl, rfl⟩
inductive Cl where | bty (x : String) | own (x : Str) (C : Addr)
mutual
inductive E where
  | var (i : Nat) | int (i : Int) | str (x : Str) | bl (b : Bool) | non
  | glob (x : Str) (d : D)
  | tup (es : Es) | lst (es : Es)
  | bin (o : Operator) (a b : E)
  | neg (a : E)
  | cmp (o : CmpOp) (a b : E)
  | cmpD (a b : E)
  | upper (a : E)
  | chain (o o' : CmpOp) (a b c : E)
  | bop (o : BoolOp) (es : Es)
  | not_ (a : E)
  | ife (t a b : E)
  | idx (a b : E)
  | slc (a : E) (lo hi : Oe)
  | fld (a : E) (C : Addr) (f : Str)
  | isa (a : E) (c : Cl) (f : D → Mp → Option Bool)
  | bcall (b : Blt) (es : Es)
  | bm (m : Bm) (a : E) (es : Es)
  | call (x : Str) (S : Spec) (es : Es)
  | callK (x : Str) (S : Spec) (es : Es) (ks : List Str) (kes : Es)
  | lc (own : List (Str × Nat)) (g : Tg) (w : Wk) (t : Oe) (elt : E)
  | dc (kd : DcK) (own : List (Str × Nat)) (g : Tg) (w : Wk) (t : Oe) (kx vx : E)
  | big
  | lenO (C : Addr) (S : Spec) (a : E)
  | dnew (kd : DcK)
  | inX (P : Program) (w : World) (neg : Bool) (a b : E)
  | getX (P : Program) (w : World) (a b : E)
  | sortX (a : E)
  | dcp (P : Program) (w : World) (a : E)
  | meth (C : Addr) (m : Str) (S : Spec) (a : E) (es : Es)
  | popL (a : E)
  | popX (P : Program) (w : World) (a b : E)
  | rgC (t : Bool) (a : E)
  | ssI (a : E)
  | ssT (a : E)
  | tupX (a : E)
  | hole (w : WE) (m : Sc → Expr → Bool)
  | xf (a : E) (C : Addr) (f : Str)
  | rev (a : E)
  | lc2 (own : List (Str × Nat)) (g : Tg) (w : Wk) (t : Oe) (g1 : Tg) (w1 : Wk) (t1 : Oe) (elt : E)
inductive Es where
  | nil
  | cons (e : E) (es : Es)
inductive Oe where
  | none
  | some (e : E)
inductive Wk where
  | seq (e : E) | r1 (e : E) | zip (a b : E) | str (e : E) | enm (e : E)
end
def Es.len : Es → Nat
  | .nil => 0
  | .cons _ es => es.len + 1
def binF : Operator → D → D → Mp → DQ → Prop
  | .Add => addD
  | .Sub => intD (fun _ _ => True) fun i j => i - j
  | .Mult => mulD
  | .Mod => intD (fun _ j => 0 < j) fun i j => i % j
  | .FloorDiv => intD CDiv fun i j => i / j
  | .Pow => intD CPow fun i j => i ^ j.toNat
  | .LShift => intD CPow fun i j => i * 2 ^ j.toNat
  | .RShift => intD (fun _ j => 0 ≤ j) fun i j => i / 2 ^ j.toNat
  | .BitAnd => intD (fun _ _ => True) fun i j => PySem.Builtin.bitAnd i j
  | _ => fun _ _ _ _ => False
def cmpF : CmpOp → D → D → Mp → DQ → Prop
  | .Eq => eqD false | .NotEq => eqD true | .Lt => ordD .lt | .LtE => ordD .le | .Gt => ordD .gt | .GtE => ordD .ge
  | .Is => isD false | .IsNot => isD true | .In => inD false | .NotIn => inD true
theorem op_and' {X : Cx} : OpR X (binaryOp .BitAnd) (rI (fun _ _ => True) fun i j => .int (PySem.Builtin.bitAnd i j)) := fun pins s σ H x y v u Q I rx ry h => by
  obtain ⟨i, j, e1, e2, _, q⟩ := h
  exact op_and pins s σ H x y v u Q I rx ry ⟨i, j, e1, e2, q⟩
theorem binF_ok {X : Cx} (o : Operator) : OpR X (binaryOp o) (rD X.K (binF o)) := by
  cases o
  case Add => exact od_add
  case Sub => exact od_int op_sub'
  case Mult => exact od_mul
  case Mod => exact od_int op_mod
  case FloorDiv => exact od_int op_fdiv
  case Pow => exact od_int op_pow
  case LShift => exact od_int op_shl
  case RShift => exact od_int op_shr
  case BitAnd => exact od_int op_and'
  all_goals (intro pins s σ H x y v u Q I rx ry h; obtain ⟨_, _, _, _, _, _, _, _, _, z, _⟩ := h; exact z.elim)
theorem cmpF_ok {X : Cx} (hu : Ru X) (o : CmpOp) : OpR X (compareOp o) (rD X.K (cmpF o)) := by
  cases o
  · exact od_eq hu
  · exact od_ne hu
  · exact od_ord .lt hu
  · exact od_ord .le hu
  · exact od_ord .gt hu
  · exact od_ord .ge hu
  · exact od_is false
  · exact od_is true
  · exact od_in false hu
  · exact od_in true hu
def isaD (f : D → Mp → Option Bool) : D → Mp → DQ → Prop := fun x M Q => ∃ b, f x M = some b ∧ Q (.bl b) M
def negD : D → Mp → DQ → Prop := fun x M Q => ∃ i, x = .int i ∧ Q (.int (-i)) M
mutual
def E.wp : E → WE
  | .var i => wVar i
  | .int i => wC (.int i)
  | .str x => wC (.str x)
  | .bl b => wC (.bl b)
  | .non => wC .non
  | .glob _ d => wC d
  | .tup es => wTup es.wp
  | .lst es => wLst es.wp
  | .bin o a b => w2 (binF o) a.wp b.wp
  | .neg a => w1 negD a.wp
  | .cmp o a b => w2 (cmpF o) a.wp b.wp
  | .cmpD a b => w2 eqTD a.wp b.wp
  | .upper a => wBm "str" upperM a.wp wNil
  | .chain o o' a b c => w3 (cmpF o) (cmpF o') a.wp b.wp c.wp
  | .bop o es => es.wpV o
  | .not_ a => wNotV a.wp
  | .ife t a b => wIf t.wpT a.wp b.wp
  | .idx a b => w2 ixD a.wp b.wp
  | .slc a lo hi => wSl a.wp lo.wpO hi.wpO
  | .fld a C f => w1 (fldD C f) a.wp
  | .isa a _ f => w1 (isaD f) a.wp
  | .bcall b es => wCall b.spec es.wp
  | .bm m a es => wBm m.ty m.spec a.wp es.wp
  | .call _ S es => wCall S es.wp
  | .callK _ S es _ kes => wCallK S es.wp kes.wp
  | .lc own g w t elt => wLc w.wp g t.wpT elt.wp (own.map (·.2))
  | .dc kd own g w t kx vx => wDc kd.emp w.wp g t.wpT kx.wp vx.wp (own.map (·.2))
  | .big => wC (.int potTop)
  | .lenO C S a => wCall (lenOS C S) (wCons a.wp wNil)
  | .dnew kd => wDnew kd
  | .inX P w neg a b => w2 (inX P w neg) a.wp b.wp
  | .getX P w a b => w2 (getX P w) a.wp b.wp
  | .sortX a => wCall sortXS (wCons a.wp wNil)
  | .dcp P w a => wCall (dcpS P w) (wCons a.wp wNil)
  | .meth C m S a es => wMeth C m S a.wp es.wp
  | .popL a => wBm "list" popM a.wp wNil
  | .popX P w a b => wPopX P w a.wp b.wp
  | .rgC t a => w1 (rgD t) a.wp
  | .ssI a => w1 ssD a.wp
  | .ssT a => w1 ssT a.wp
  | .tupX a => wCall tupXS (wCons a.wp wNil)
  | .hole w _ => w
  | .xf a C f => w1 (xfD C f) a.wp
  | .rev a => w1 revD a.wp
  | .lc2 own g w t g1 w1 t1 elt => wLc2 w.wp g t.wpT w1.wp g1 t1.wpT elt.wp (own.map (·.2)) g1.slots
def E.wpT : E → WT
  | .cmp o a b => wTest (w2 (cmpF o) a.wp b.wp)
  | .cmpD a b => wTest (w2 eqTD a.wp b.wp)
  | .chain o o' a b c => wTest (w3 (cmpF o) (cmpF o') a.wp b.wp c.wp)
  | .bop o es => es.wpT o
  | .not_ a => wNot a.wpT
  | .ife t a b => wIfB t.wpT a.wpT b.wpT
  | .var i => wTru (wVar i)
  | .idx a b => wTru (w2 ixD a.wp b.wp)
  | .fld a C f => wTru (w1 (fldD C f) a.wp)
  | .isa a _ f => wTru (w1 (isaD f) a.wp)
  | .bcall b es => wTru (wCall b.spec es.wp)
  | .call _ S es => wTru (wCall S es.wp)
  | .bl b => wTru (wC (.bl b))
  | .inX P w neg a b => wTest (w2 (inX P w neg) a.wp b.wp)
  | .meth C m S a es => wTru (wMeth C m S a.wp es.wp)
  | .hole w _ => wTru w
  | _ => fun _ _ _ => False
def Es.wp : Es → WA
  | .nil => wNil
  | .cons e es => wCons e.wp es.wp
def Es.wpV (o : BoolOp) : Es → WE
  | .nil => fun _ _ _ => False
  | .cons e .nil => e.wp
  | .cons e es => match o with
    | .And => wAndV e.wp (es.wpV o)
    | .Or => wOrV e.wp (es.wpV o)
def Es.wpT (o : BoolOp) : Es → WT
  | .nil => fun _ _ _ => False
  | .cons e .nil => e.wpT
  | .cons e es => match o with
    | .And => wAnd e.wpT (es.wpT o)
    | .Or => wOr e.wpT (es.wpT o)
def Oe.wpO : Oe → WO
  | .none => wO0
  | .some e => wO1 e.wp
def Oe.wpT : Oe → WT
  | .none => wYes
  | .some e => e.wpT
def Wk.wp : Wk → WI
  | .seq e => wISeq e.wp
  | .r1 e => wIR1 e.wp
  | .zip a b => wIZip a.wp b.wp
  | .str e => wIStr e.wp
  | .enm e => wIEn e.wp
end
def nmB (c : Sc) (i : Nat) (x : Str) : Bool := decide (c.N[i]? = some x) && ((match c.sc.names.lookup x with | some .local => true | some .cell => true | some .free => true | _ => false) && (!(x == ("__debug__" : Str)) && !(x == ("__classdict__" : Str))))
def glB (c : Sc) (x : Str) : Bool := decide (c.sc.names.lookup x = some .globalImplicit) && !(x == ("__debug__" : Str))
def tgB (c : Sc) (i : Nat) (x : Str) : Bool := decide (c.N[i]? = some x) && (match c.sc.names.lookup x with | some .local => true | some .cell => c.fn x | _ => false)
def Sc.blk (c : Sc) (scope : Scope) : Sc := ⟨c.N, relS scope c.sc, fun x => scope.names.lookup x == some .cell⟩
def asTuple : Expr → Bool | .Tuple _ _ _ => true | _ => false
def tyNames : List String := ["int", "bool", "str", "tuple", "list", "dict", "ValueError"]
mutual
def Tg.mt (c : Sc) : Tg → Expr → Bool
  | .name i, x => match x with
    | .Name y _ => tgB c i y
    | _ => false
  | .tup ts, x => match x with
    | .Tuple es _ _ => ts.mt c es
    | _ => false
def Tgs.mt (c : Sc) : Tgs → List Expr → Bool
  | .nil, xs => match xs with
    | [] => true
    | _ => false
  | .cons t ts, xs => match xs with
    | x :: xs => notStar x && (t.mt c x && ts.mt c xs)
    | [] => false
end
mutual
def E.mt (c : Sc) : E → Expr → Bool
  | .big, x => match x with
    | .Call (.Name n _) [.BinOp (.Constant (.str s1) _ _) .Add (.BinOp (.Constant (.str s2) _ _) .Mult (.Constant (.int i) _ _) _) _] [] _ => decide (n = "int") && (glB c n && (decide (s1 = "1") && (decide (s2 = "0") && decide (i = 900))))
    | _ => false
  | .lenO _ _ a, x => match x with
    | .Call (.Name n _) [l] [] _ => decide (n = "len") && (glB c n && (a.mt c l && notStar l))
    | _ => false
  | .dnew _, x => match x with
    | .Dict [] [] _ => true
    | _ => false
  | .inX _ _ neg a b, x => match x with
    | .Compare l [o'] [r] _ => decide ((if neg then CmpOp.NotIn else CmpOp.In) = o') && (a.mt c l && (b.mt c r && !behindInMarks (if neg then CmpOp.NotIn else CmpOp.In) r))
    | _ => false
  | .getX _ _ a b, x => match x with
    | .Subscript l r _ => a.mt c l && (b.mt c r && notSlice r)
    | _ => false
  | .dcp _ _ a, x => match x with
    | .Call (.Name n _) [l] [] _ => decide (n = "dict") && (glB c n && (a.mt c l && notStar l))
    | _ => false
  | .sortX a, x => match x with
    | .Call (.Name n _) [l] [] _ => decide (n = "sorted") && (glB c n && (a.mt c l && notStar l))
    | _ => false
  | .meth _ m _ a es, x => match x with
    | .Call (.Attribute l n ap) ys [] p => decide (n = m) && (a.mt c l && (es.mt c ys && (plainBase l && (decide (ys.length < 30) && (ap.endLine == p.line)))))
    | _ => false
  | .popL a, x => match x with
    | .Call (.Attribute l n ap) [] [] p => decide (n = "pop") && (a.mt c l && (plainBase l && (ap.endLine == p.line)))
    | _ => false
  | .popX _ _ a b, x => match x with
    | .Call (.Attribute l n ap) [y] [] p => decide (n = "pop") && (a.mt c l && (b.mt c y && (plainBase l && (notStar y && (ap.endLine == p.line)))))
    | _ => false
  | .rev a, x => match x with
    | .Subscript l (.Slice none none (some (.UnaryOp .USub (.Constant (.int i) _ _) _)) _) _ => decide (i = 1) && a.mt c l
    | _ => false
  | .ssI a, x => match x with
    | .Call (.Name n _) [.Call (.Name m _) [y] [] _] [] _ => decide (n = "sorted") && (decide (m = "set") && (glB c n && (glB c m && (a.mt c y && notStar y))))
    | _ => false
  | .ssT a, x => match x with
    | .Call (.Name n _) [.Call (.Name m _) [y] [] _] [] _ => decide (n = "sorted") && (decide (m = "set") && (glB c n && (glB c m && (a.mt c y && notStar y))))
    | _ => false
  | .tupX a, x => match x with
    | .Call (.Name n _) [l] [] _ => decide (n = "tuple") && (glB c n && (a.mt c l && notStar l))
    | _ => false
  | .hole _ m, x => m c x
  | .xf a _ f, x => match x with
    | .Attribute l g _ => decide (f = g) && (a.mt c l && plainBase l)
    | _ => false
  | .rgC t a, x => match x with
    | .Call (.Name n _) [.Call (.Name m _) [y] [] _] [] _ => decide (n = (if t = true then ("tuple" : Str) else ("list" : Str))) && (decide (m = "range") && (glB c n && (glB c m && (a.mt c y && notStar y))))
    | _ => false
  | .lc2 own g w t g1 w1 t1 elt, x => match x with
    | .ListComp el [⟨tg, iter, ifs, as⟩, ⟨tg1, iter1, ifs1, as1⟩] scope _ => decide (as = 0) && (decide (as1 = 0) && (blkC c.N c.sc scope own && (notSet iter && (notSet iter1 && (w.mt c tg iter && (g.mt (c.blk scope) tg && (t.mtI (c.blk scope) ifs && (w1.mt (c.blk scope) tg1 iter1 && (g1.mt (c.blk scope) tg1 && (t1.mtI (c.blk scope) ifs1 && (elt.mt (c.blk scope) el && ((g.slots.all fun j => (own.map (·.2)).contains j) && g1.slots.all fun j => (own.map (·.2)).contains j))))))))))))
    | _ => false
  | .dc _ own g w t kx vx, x => match x with
    | .DictComp kl vl [⟨tg, iter, ifs, as⟩] scope _ => decide (as = 0) && (blkC c.N c.sc scope own && (notSet iter && (w.mt c tg iter && (g.mt (c.blk scope) tg && (t.mtI (c.blk scope) ifs && (kx.mt (c.blk scope) kl && (vx.mt (c.blk scope) vl && g.slots.all fun j => (own.map (·.2)).contains j)))))))
    | _ => false
  | .var i, x => match x with
    | .Name y _ => nmB c i y
    | _ => false
  | .int i, x => match x with
    | .Constant (.int j) _ _ => decide (i = j)
    | _ => false
  | .str z, x => match x with
    | .Constant (.str j) _ _ => decide (z = j)
    | _ => false
  | .bl z, x => match x with
    | .Constant (.bool j) _ _ => decide (z = j)
    | _ => false
  | .non, x => match x with
    | .Constant .none _ _ => true
    | _ => false
  | .glob n _, x => match x with
    | .Name y _ => decide (n = y) && glB c n
    | _ => false
  | .tup es, x => match x with
    | .Tuple xs _ _ => es.mt c xs
    | _ => false
  | .lst es, x => match x with
    | .List xs _ => es.mt c xs
    | _ => false
  | .bin o a b, x => match x with
    | .BinOp l o' r _ => decide (o = o') && (a.mt c l && b.mt c r)
    | _ => false
  | .neg a, x => match x with
    | .UnaryOp .USub l _ => a.mt c l
    | _ => false
  | .cmpD a b, x => match x with
    | .Compare l [o'] [r] _ => decide (CmpOp.Eq = o') && (a.mt c l && (b.mt c r && !behindInMarks .Eq r))
    | _ => false
  | .upper a, x => match x with
    | .Call (.Attribute l n ap) [] [] p => decide (n = "upper") && (a.mt c l && (plainBase l && (ap.endLine == p.line)))
    | _ => false
  | .cmp o a b, x => match x with
    | .Compare l [o'] [r] _ => decide (o = o') && (a.mt c l && (b.mt c r && !behindInMarks o r))
    | _ => false
  | .chain o p a b d, x => match x with
    | .Compare l [o', p'] [m, r] _ => decide (o = o') && (decide (p = p') && (a.mt c l && (b.mt c m && (d.mt c r && !lastMarks [o, p] [m, r]))))
    | _ => false
  | .bop o es, x => match x with
    | .BoolOp o' xs _ => decide (o = o') && es.mt c xs
    | _ => false
  | .not_ a, x => match x with
    | .UnaryOp .Not l _ => a.mt c l
    | _ => false
  | .ife t a b, x => match x with
    | .IfExp y l r _ => t.mt c y && (a.mt c l && b.mt c r)
    | _ => false
  | .idx a b, x => match x with
    | .Subscript l r _ => a.mt c l && (b.mt c r && notSlice r)
    | _ => false
  | .slc a lo hi, x => match x with
    | .Subscript l (.Slice p q none _) _ => a.mt c l && (lo.mt c p && hi.mt c q)
    | _ => false
  | .fld a _ f, x => match x with
    | .Attribute l g _ => decide (f = g) && (a.mt c l && plainBase l)
    | _ => false
  | .isa a k _, x => match x with
    | .Call (.Name n _) [l, .Name y _] [] _ => decide (n = "isinstance") && (glB c n && (a.mt c l && (notStar l && (glB c y && (match k with
      | .bty t => decide (y = Str.ofString t) && tyNames.contains t
      | .own z _ => decide (y = z))))))
    | _ => false
  | .bcall b es, x => match x with
    | .Call (.Name n _) (l :: ls) [] _ => decide (n = b.nm) && (glB c n && es.mt c (l :: ls))
    | _ => false
  | .bm m a es, x => match x with
    | .Call (.Attribute l n ap) (y :: ys) [] p => decide (n = m.nm) && (a.mt c l && (es.mt c (y :: ys) && (plainBase l && (decide ((y :: ys).length < 30) && (ap.endLine == p.line)))))
    | _ => false
  | .call n _ es, x => match x with
    | .Call (.Name y _) xs [] _ => decide (n = y) && (glB c n && es.mt c xs)
    | _ => false
  | .callK n _ es ks kes, x => match x with
    | .Call (.Name y _) xs kws _ => decide (n = y) && (glB c n && (es.mt c xs && (kes.mtK c kws && decide (kwNames kws = ks.map some))))
    | _ => false
  | .lc own g w t elt, x => match x with
    | .ListComp el [⟨tg, iter, ifs, as⟩] scope _ => decide (as = 0) && (blkC c.N c.sc scope own && (notSet iter && (w.mt c tg iter && (g.mt (c.blk scope) tg && (t.mtI (c.blk scope) ifs && (elt.mt (c.blk scope) el && g.slots.all fun j => (own.map (·.2)).contains j))))))
    | _ => false
def Es.mt (c : Sc) : Es → List Expr → Bool
  | .nil, xs => match xs with
    | [] => true
    | _ => false
  | .cons e es, xs => match xs with
    | x :: xs => notStar x && (e.mt c x && es.mt c xs)
    | [] => false
def Es.mtK (c : Sc) : Es → List Keyword → Bool
  | .nil, xs => match xs with
    | [] => true
    | _ => false
  | .cons e es, xs => match xs with
    | ⟨_, x, _⟩ :: xs => e.mt c x && es.mtK c xs
    | [] => false
def Oe.mt (c : Sc) : Oe → Option Expr → Bool
  | .none, x => match x with
    | none => true
    | _ => false
  | .some e, x => match x with
    | some y => e.mt c y
    | _ => false
def Oe.mtI (c : Sc) : Oe → List Expr → Bool
  | .none, x => match x with
    | [] => true
    | _ => false
  | .some e, x => match x with
    | [y] => e.mt c y
    | _ => false
def Wk.mt (c : Sc) : Wk → Expr → Expr → Bool
  | .enm e, tg, x => match x with
    | .Call (.Name n _) [y] [] _ => asTuple tg && (decide (n = "enumerate") && (glB c n && (notStar y && e.mt c y)))
    | _ => false
  | .seq e, _, x => e.mt c x
  | .str e, _, x => e.mt c x
  | .r1 e, _, x => match x with
    | .Call (.Name n _) [y] [] _ => decide (n = "range") && (glB c n && (notStar y && e.mt c y))
    | _ => false
  | .zip a b, tg, x => match x with
    | .Call (.Name n _) [y, z] [] _ => asTuple tg && (decide (n = "zip") && (glB c n && (notStar y && (a.mt c y && (notStar z && b.mt c z)))))
    | _ => false
end
structure Isa (k : Co) (c : Cl) (f : D → Mp → Option Bool) : Prop where
  mi : k.mg "isinstance" = none
  cl : match c with | .bty x => k.mg (Str.ofString x) = none | .own x C => k.mg x = some (.ref C)
  ok : ∀ H M d v b, RepM k.K H M → Rep k.K H d v → f d M = some b → ∃ t, TyY k.K H v t ∧ PySem.W.kitOne k.K t (match c with | .bty x => .type x | .own _ C => .ref C) = some b
mutual
def E.ok (k : Co) : E → Prop
  | .glob x d => ∃ u v, k.mg x = some u ∧ RelV v u ∧ ∀ H, Rep k.K H d v
  | .tup es => es.ok k
  | .lst es => es.ok k
  | .bin _ a b => a.ok k ∧ b.ok k
  | .neg a => a.ok k
  | .cmp _ a b => a.ok k ∧ b.ok k
  | .cmpD a b => a.ok k ∧ b.ok k
  | .upper a => a.ok k
  | .chain _ _ a b d => a.ok k ∧ b.ok k ∧ d.ok k
  | .bop _ es => es.ok k
  | .not_ a => a.ok k
  | .ife t a b => t.ok k ∧ a.ok k ∧ b.ok k
  | .idx a b => a.ok k ∧ b.ok k
  | .slc a lo hi => a.ok k ∧ lo.ok k ∧ hi.ok k
  | .fld a C f => Cf k.K C f ∧ a.ok k
  | .isa a c f => Isa k c f ∧ a.ok k
  | .bcall b es => k.mg b.nm = none ∧ (b.isRepr = true → k.A.guards = some []) ∧ es.ok k
  | .bm _ a es => a.ok k ∧ es.ok k
  | .call x S es => Callee k x es.len [] S ∧ es.ok k
  | .callK x S es ks kes => Callee k x es.len ks S ∧ kes.len = ks.length ∧ es.ok k ∧ kes.ok k
  | .lc _ _ w t elt => w.ok k ∧ t.ok k ∧ elt.ok k
  | .dc kd _ _ w t kx vx => (match kd with | .k => True | .t P w => P = k.prog ∧ w = k.w) ∧ w.ok k ∧ t.ok k ∧ kx.ok k ∧ vx.ok k
  | .big => k.mg "int" = none ∧ k.base.NoDigits
  | .lenO C S a => k.mg "len" = none ∧ OwnM k C "__len__" S ∧ a.ok k
  | .dnew kd => (match kd with | .k => True | .t P w => P = k.prog ∧ w = k.w)
  | .inX P w _ a b => P = k.prog ∧ w = k.w ∧ a.ok k ∧ b.ok k
  | .getX P w a b => P = k.prog ∧ w = k.w ∧ a.ok k ∧ b.ok k
  | .sortX a => k.mg "sorted" = none ∧ a.ok k
  | .dcp P w a => k.mg "dict" = none ∧ P = k.prog ∧ w = k.w ∧ a.ok k
  | .meth C m S a es => MethM k C m S ∧ a.ok k ∧ es.ok k
  | .popL a => a.ok k
  | .popX P w a b => P = k.prog ∧ w = k.w ∧ a.ok k ∧ b.ok k
  | .rev a => a.ok k
  | .ssI a => k.mg "sorted" = none ∧ k.mg "set" = none ∧ a.ok k
  | .ssT a => k.mg "sorted" = none ∧ k.mg "set" = none ∧ a.ok k
  | .tupX a => k.mg "tuple" = none ∧ a.ok k
  | .hole w m => ∀ (c : Sc) (X : Cx) (x : Expr), Gd c X → co X = k → m c x = true → PE X x (tD X.K w) ∧ plainTest x = true
  | .xf a C f => Xf k.K C f ∧ a.ok k
  | .rgC t a => k.mg (if t = true then "tuple" else "list") = none ∧ k.mg "range" = none ∧ a.ok k
  | .lc2 _ _ w t _ w1 t1 elt => w.ok k ∧ t.ok k ∧ w1.ok k ∧ t1.ok k ∧ elt.ok k
  | _ => True
def Es.ok (k : Co) : Es → Prop
  | .nil => True
  | .cons e es => e.ok k ∧ es.ok k
def Oe.ok (k : Co) : Oe → Prop
  | .none => True
  | .some e => e.ok k
def Wk.ok (k : Co) : Wk → Prop
  | .seq e => e.ok k
  | .str e => e.ok k
  | .r1 e => k.mg "range" = none ∧ e.ok k
  | .zip a b => k.mg "zip" = none ∧ a.ok k ∧ b.ok k
  | .enm e => k.mg "enumerate" = none ∧ e.ok k
end
end DL
namespace DL
open PySem L2
theorem band {a b : Bool} (h : (a && b) = true) : a = true ∧ b = true := Bool.and_eq_true_iff.mp h
theorem bnot {a : Bool} (h : (!a) = true) : a = false := by cases a <;> first | rfl | cases h
section
variable {c : Sc} {X : Cx}
theorem Gd.gl (g : Gd c X) {x : Str} (h : glB c x = true) : Gl X x ∧ (x == ("__debug__" : Str)) = false := by
  obtain ⟨h1, h2⟩ := band h
  refine ⟨?_, bnot h2⟩
  show X.env.scope.names.lookup x = _
  rw [g.sc]
  exact of_decide_eq_true h1
theorem Gd.var (g : Gd c X) {i : Nat} {x : Str} {p : Pos} (h : nmB c i x = true) : PE X (.Name x p) (tVar i) := by
  obtain ⟨h1, h2⟩ := band h
  obtain ⟨h2, h3⟩ := band h2
  obtain ⟨h3, h4⟩ := band h3
  refine pe_var (by rw [g.n]; exact of_decide_eq_true h1) ?_ (bnot h3) (bnot h4)
  unfold Vis
  rw [g.sc]
  split at h2
  · rename_i e; exact .inl e
  · rename_i e; exact .inr (.inl e)
  · rename_i e; exact .inr (.inr e)
  · cases h2
theorem Gd.name (g : Gd c X) {i : Nat} {x : Str} {p : Pos} (h : tgB c i x = true) : PG X (.Name x p) (gName i) := by
  obtain ⟨h1, h2⟩ := band h
  have e1 : X.N[i]? = some x := by rw [g.n]; exact of_decide_eq_true h1
  split at h2
  · rename_i e
    exact pg_name g.nd e1 (.inl (by rw [g.sc]; exact e)) (.inr (by rw [g.sc]; exact e))
  · rename_i e
    exact pg_name g.nd e1 (.inr (by rw [g.sc]; exact e)) (.inl (by rw [g.fn]; exact h2))
  · cases h2
theorem Gd.blk (g : Gd c X) {s : Shared} {H : Hp} {scope : Scope} {cl : List (Str × Addr)} {C : Addr} {fp : List Addr} : Gd (c.blk scope) (X.blk s H scope (compEnvC scope cl C X.env) fp) :=
  ⟨g.n, g.nd, by show relS scope X.env.scope = _; rw [g.sc]; rfl, rfl, g.calm, g.ru, g.cq⟩
theorem asg_each {x : Expr} (h : notStar x = true) (xs : List Expr) (env : Env) : (assignEach (x :: xs) env).map (·.2) = assign x env :: (assignEach xs env).map (·.2) := by
  cases x <;> first | rfl | cases h
theorem asg_len {env : Env} : ∀ {xs : List Expr}, xs.all notStar = true → (assignEach xs env).length = xs.length ∧ (assignEach xs env).findIdx? (·.1) = none
  | [], _ => ⟨rfl, rfl⟩
  | x :: xs, h => by
    rw [List.all_cons] at h
    obtain ⟨h1, h2⟩ := band h
    obtain ⟨a1, a2⟩ := asg_len (env := env) h2
    have e : assignEach (x :: xs) env = (false, assign x env) :: assignEach xs env := by cases x <;> first | rfl | cases h1
    rw [e]
    refine ⟨by rw [List.length_cons, a1]; rfl, ?_⟩
    rw [List.findIdx?_cons]
    simp [a2]
mutual
theorem Tg.snd (g : Gd c X) : ∀ (t : Tg) (x : Expr), t.mt c x = true → PG X x (gD X.K t)
  | .name i, x, h => by
    unfold Tg.mt at h
    split at h
    · exact pgd_name (g.name h)
    · cases h
  | .tup ts, x, h => by
    unfold Tg.mt at h
    split at h
    · obtain ⟨h1, h2, h3⟩ := Tgs.snd g ts _ h
      obtain ⟨a1, a2⟩ := asg_len (env := X.env) h2
      exact pgd_tup g.calm h1 (by rw [a1, h3]) a2
    · cases h
theorem Tgs.snd (g : Gd c X) : ∀ (t : Tgs) (x : List Expr), t.mt c x = true → PGs X x (gDs X.K t) ∧ x.all notStar = true ∧ x.length = t.len
  | .nil, x, h => by
    unfold Tgs.mt at h
    split at h
    · exact ⟨pgds_nil, rfl, rfl⟩
    · cases h
  | .cons t ts, x, h => by
    unfold Tgs.mt at h
    split at h
    · obtain ⟨h1, h2⟩ := band h
      obtain ⟨h2, h3⟩ := band h2
      obtain ⟨a1, a2, a3⟩ := Tgs.snd g ts _ h3
      refine ⟨pgds_cons (Tg.snd g t _ h2) a1 (asg_each h1 _ _), by rw [List.all_cons, h1, a2]; rfl, ?_⟩
      rw [List.length_cons, a3]
      rfl
    · cases h
end
theorem negd : UnR X (unaryOp .USub) (rD1 X.K negD) := fun pins s σ H x v Q I rx h => by
  obtain ⟨dx, M, F, Q0, r1, m, fr, ⟨i, rfl, hq⟩, g⟩ := h
  cases r1
  exact un_neg pins s σ H _ v Q I rx ⟨i, rfl, g _ M _ H hq (.refl _) fr.frm m rfl⟩
theorem isa_pe {f : D → Mp → Option Bool} {cl : Cl} {a : Expr} {wa : WE} {y : Str} {pos p p2 : Pos} (k : Isa (co X) cl f) (ha : PE X a (tD X.K wa)) (hs : notStar a = true) (hg : Gl X "isinstance") (hgy : Gl X y ∧ (y == ("__debug__" : Str)) = false)
    (hy : match cl with | .bty t => y = Str.ofString t ∧ tyNames.contains t = true | .own z _ => y = z) : PE X (.Call (.Name "isinstance" p) [a, .Name y p2] [] pos) (tD X.K (w1 (isaD f) wa)) := by
  have fin : ∀ (cv : V) (u : Value), ClsV cv u → (∀ H M d v b, RepM X.K H M → Rep X.K H d v → f d M = some b → ∃ t, TyY X.K H v t ∧ PySem.W.kitOne X.K t u = some b) → PE X (.Name y p2) (tC cv) → PE X (.Call (.Name "isinstance" p) [a, .Name y p2] [] pos) (tD X.K (w1 (isaD f) wa)) := by
    intro cv u hcl hok hpe
    refine (pe_callB call_isiY hg k.mi PyProof.Rows.boot_isinstance (pa_cons ha (pa_cons hpe pa_nil) (star_of hs _ _)) (by decide) (by decide) (star_of hs _ _) rfl).imp fun σ H Q => ?_
    rintro ⟨ρ, M, F, Q0, s, q, g⟩
    refine ⟨ρ, M, F, _, s, q, fun x M1 v H1 q1 t1 f1 r1 p1 => ?_⟩
    obtain ⟨b, e, q1⟩ := q1
    obtain ⟨t, ty, kt⟩ := hok H1 M1 x v b r1 p1 e
    exact ⟨v, cv, t, u, b, rfl, hcl, ty, kt, g _ M1 _ H1 q1 t1 f1 r1 rfl⟩
  cases cl with
  | own z C =>
    obtain rfl : y = z := hy
    have km : X.mg y = some (.ref C) := k.cl
    exact fin (.ref C) (.ref C) (.own C) k.ok (pe_glob hgy.1 km rfl hgy.2)
  | bty t =>
    obtain ⟨hy, ht⟩ : y = Str.ofString t ∧ tyNames.contains t = true := hy
    subst hy
    have km : X.mg (Str.ofString t) = none := k.cl
    have hb : bootBuiltins (Str.ofString t) = some (.type t) ∧ Str.ofString t ≠ "__name__" := by
      have e : t = "int" ∨ t = "bool" ∨ t = "str" ∨ t = "tuple" ∨ t = "list" ∨ t = "dict" ∨ t = "ValueError" := by
        simpa [tyNames] using ht
      rcases e with rfl | rfl | rfl | rfl | rfl | rfl | rfl
      · exact ⟨PyProof.Rows.boot_int, by decide⟩
      · exact ⟨PyProof.Rows.boot_bool, by decide⟩
      · exact ⟨PyProof.Rows.boot_str, by decide⟩
      · exact ⟨PyProof.Rows.boot_tuple, by decide⟩
      · exact ⟨PyProof.Rows.boot_list, by decide⟩
      · exact ⟨PyProof.Rows.boot_dict, by decide⟩
      · exact ⟨PyProof.Rows.Boot.«ValueError», by decide⟩
    exact fin (.ty t) (.type t) (.ty t) k.ok (pe_bltn hgy.1 km hb.1 rfl hb.2 hgy.2)
theorem call_case {n : Str} {S : Spec} {es : Es} {xs : List Expr} {p pos : Pos} (hx : Callee (co X) n es.len [] S) (g : Gd c X) (h2 : glB c n = true) (h3 : es.mt c xs = true) (a1 : PA X xs (tDN X.K es.len es.wp)) (a2 : xs.all notStar = true) : PE X (.Call (.Name n p) xs [] pos) (tD X.K (wCall S es.wp)) := by
  obtain ⟨g1, g2⟩ := g.gl h2
  cases xs with
  | nil =>
    cases es with
    | nil => unfold Es.wp; exact pd_call0 hx g.calm g1 g2
    | cons e es => unfold Es.mt at h3; cases h3
  | cons z zs => exact pd_call hx g.calm g1 g2 a1 a2
theorem meth_case {C : Addr} {m : Str} {S : Spec} {a : Expr} {wa : WE} {es : Es} {ys : List Expr} {ap p : Pos} (hM : MethM (co X) C m S) (ho : PE X a (tD X.K wa)) (he : PA X ys (tDN X.K es.len es.wp) ∧ ys.all notStar = true) (hm : es.mt c ys = true) (hb : plainBase a = true) (hl : ys.length < 30) (hline : (ap.endLine == p.line) = true) :
    PE X (.Call (.Attribute a m ap) ys [] p) (tD X.K (wMeth C m S wa es.wp)) := by
  cases ys with
  | nil =>
    cases es with
    | nil => unfold Es.wp; exact pd_meth0 hM ho hb hline
    | cons e r => unfold Es.mt at hm; cases hm
  | cons y ys => exact pd_methA hM ho (pdn_a he.1) hb he.2 hl hline
theorem callK_case {n : Str} {S : Spec} {es kes : Es} {ks : List Str} {xs : List Expr} {kws : List Keyword} {p pos : Pos} (hx : Callee (co X) n es.len ks S) (g : Gd c X) (h2 : glB c n = true) (h3 : es.mt c xs = true) (a1 : PA X xs (tDN X.K es.len es.wp)) (a2 : xs.all notStar = true)
    (a3 : PK X kws (tDN X.K ks.length kes.wp)) (hk : kwNames kws = ks.map some) : PE X (.Call (.Name n p) xs kws pos) (tD X.K (wCallK S es.wp kes.wp)) := by
  obtain ⟨g1, g2⟩ := g.gl h2
  cases xs with
  | nil =>
    cases es with
    | nil =>
      have e0 : Es.nil.wp = wNil := by unfold Es.wp; rfl
      rw [e0]; exact pd_callK0 hx g.calm g1 g2 a3 hk
    | cons e es => unfold Es.mt at h3; cases h3
  | cons z zs => exact pd_callK hx g.calm g1 g2 a1 a2 a3 hk
theorem big_pe {p1 p2 p3 p4 p5 p6 pos : Pos} {k1 k2 k3 : Nat} (hm : X.mg "int" = none) (hd : X.base.NoDigits) (hg : Gl X "int") : PE X (.Call (.Name "int" p1) [.BinOp (.Constant (.str "1") k1 p2) .Add (.BinOp (.Constant (.str "0") k2 p3) .Mult (.Constant (.int 900) k3 p4) p5) p6] [] pos) (tD X.K (wC (.int potTop))) := by
  have m0 : OpR X (binaryOp .Mult) (rD X.K fun x y M Q => x = .str "0" ∧ y = .int 900 ∧ Q (.str (Txt.mul "0" 900)) M) := fun pins s σ H x y v u Q I rx ry h => by
    obtain ⟨dx, dy, M, F, Q0, r1, r2, m, fr, ⟨rfl, rfl, h⟩, g⟩ := h
    cases r1; cases r2
    exact op_mul_str pins s σ H _ _ v u Q I rx ry ⟨rfl, rfl, g _ M _ H h (.refl _) fr.frm m rfl⟩
  have c0 : ∀ {z : PySem.Str} {k : Nat} {p : Pos}, PE X (.Constant (.str z) k p) (tD X.K (wC (.str z))) := pd_c pe_str fun H => by unfold Rep; rfl
  have c1 : ∀ {z : Int} {k : Nat} {p : Pos}, PE X (.Constant (.int z) k p) (tD X.K (wC (.int z))) := pd_c pe_int fun H => by unfold Rep; rfl
  have s0 := pd_bin (pos := p6) od_add (c0 (z := "1") (k := k1) (p := p2)) (pd_bin (pos := p5) m0 (c0 (z := "0") (k := k2) (p := p3)) (c1 (z := 900) (k := k3) (p := p4)))
  refine (pe_callTy (cd_big hd) hg hm PyProof.Rows.boot_int (pa_cons s0 pa_nil (star_of rfl _ _)) (by decide) (by decide) (star_of rfl _ _) rfl).imp fun σ H Q => ?_
  rintro ⟨ρ, M, F, Q0, s, q, g⟩
  refine ⟨ρ, M, F, fun x M1 => x = .str bigT ∧ Q0 (.int potTop) M1, s, ?_, fun x M1 v H1 q1 t1 f1 r1 p1 => ?_⟩
  · refine ⟨rfl, rfl, ?_, rfl, q⟩
    show ("1" : PySem.Str).length + (Txt.mul "0" 900).length ≤ sizeLine
    rw [bigL, sizeLine_eq]
    decide
  · obtain ⟨rfl, q1⟩ := q1
    cases p1
    exact ⟨rfl, g _ M1 _ H1 q1 t1 f1 r1 rfl⟩
theorem never_t {x : Expr} : PT X x (tDT X.K fun _ _ _ => False) := ⟨fun pins s σ H Q I h => by
  obtain ⟨_, _, _, _, _, z, _⟩ := h
  exact z.elim⟩
theorem never_e {x : Expr} : PE X x (tD X.K fun _ _ _ => False) := ⟨fun pins s σ H Q I h => by
  obtain ⟨_, _, _, _, _, z, _⟩ := h
  exact z.elim⟩
theorem never_w {x : Expr} : PW X x (tDT X.K fun _ _ _ => False) := ⟨fun wh pins s σ H Q I h => by
  obtain ⟨_, _, _, _, _, z, _⟩ := h
  exact z.elim⟩
end
mutual
theorem E.snd : ∀ (e : E) {c : Sc} {X : Cx} (x : Expr), Gd c X → e.ok (co X) → e.mt c x = true → PE X x (tD X.K e.wp)
  | .var i, c, X, x, g, ok, h => by
    unfold E.mt at h
    split at h
    · unfold E.wp; exact pd_var (x := "") (g.var h)
    · cases h
  | .int i, c, X, x, g, ok, h => by
    unfold E.mt at h
    split at h
    · obtain rfl := of_decide_eq_true h
      unfold E.wp; exact pd_c pe_int fun H => by unfold Rep; rfl
    · cases h
  | .str i, c, X, x, g, ok, h => by
    unfold E.mt at h
    split at h
    · obtain rfl := of_decide_eq_true h
      unfold E.wp; exact pd_c pe_str fun H => by unfold Rep; rfl
    · cases h
  | .bl i, c, X, x, g, ok, h => by
    unfold E.mt at h
    split at h
    · obtain rfl := of_decide_eq_true h
      unfold E.wp; exact pd_c pe_bl fun H => by unfold Rep; rfl
    · cases h
  | .non, c, X, x, g, ok, h => by
    unfold E.mt at h
    split at h
    · unfold E.wp; exact pd_c pe_non fun H => by unfold Rep; rfl
    · cases h
  | .glob n d, c, X, x, g, ok, h => by
    unfold E.mt at h
    split at h
    · obtain ⟨h1, h2⟩ := band h
      obtain rfl := of_decide_eq_true h1
      unfold E.ok at ok
      obtain ⟨u, v, hm, r, hr⟩ := ok
      obtain ⟨g1, g2⟩ := g.gl h2
      unfold E.wp; exact pd_c (pe_glob g1 hm r g2) hr
    · cases h
  | .tup es, c, X, x, g, ok, h => by
    unfold E.mt at h
    split at h
    · unfold E.ok at ok
      unfold E.wp; exact pd_tup (pdn_a (Es.snd es _ g ok h).1)
    · cases h
  | .lst es, c, X, x, g, ok, h => by
    unfold E.mt at h
    split at h
    · unfold E.ok at ok
      unfold E.wp; exact pd_lst (pdn_a (Es.snd es _ g ok h).1)
    · cases h
  | .bin o a b, c, X, x, g, ok, h => by
    unfold E.mt at h
    split at h
    · obtain ⟨h1, h2⟩ := band h
      obtain ⟨h2, h3⟩ := band h2
      obtain rfl := of_decide_eq_true h1
      unfold E.ok at ok
      unfold E.wp; exact pd_bin (binF_ok o) (E.snd a _ g ok.1 h2) (E.snd b _ g ok.2 h3)
    · cases h
  | .neg a, c, X, x, g, ok, h => by
    unfold E.mt at h
    split at h
    · unfold E.ok at ok
      unfold E.wp; exact pd_un negd (E.snd a _ g ok h)
    · cases h
  | .cmpD a b, c, X, x, g, ok, h => by
    unfold E.mt at h
    split at h
    · obtain ⟨h1, h2⟩ := band h
      obtain ⟨h2, h3⟩ := band h2
      obtain ⟨h3, h4⟩ := band h3
      obtain rfl := of_decide_eq_true h1
      unfold E.ok at ok
      unfold E.wp; exact pd_cmp (od_eqTD g.ru) (E.snd a _ g ok.1 h2) (E.snd b _ g ok.2 h3) (bnot h4)
    · cases h
  | .upper a, c, X, x, g, ok, h => by
    unfold E.mt at h
    split at h
    · obtain ⟨h1, h2⟩ := band h
      obtain ⟨h2, h3⟩ := band h2
      obtain ⟨h3, h4⟩ := band h3
      obtain rfl := of_decide_eq_true h1
      unfold E.ok at ok
      unfold E.wp
      exact pd_upper (E.snd a _ g ok h2) h3 h4
    · cases h
  | .cmp o a b, c, X, x, g, ok, h => by
    unfold E.mt at h
    split at h
    · obtain ⟨h1, h2⟩ := band h
      obtain ⟨h2, h3⟩ := band h2
      obtain ⟨h3, h4⟩ := band h3
      obtain rfl := of_decide_eq_true h1
      unfold E.ok at ok
      unfold E.wp; exact pd_cmp (cmpF_ok g.ru o) (E.snd a _ g ok.1 h2) (E.snd b _ g ok.2 h3) (bnot h4)
    · cases h
  | .chain o p a b d, c, X, x, g, ok, h => by
    unfold E.mt at h
    split at h
    · obtain ⟨h1, h2⟩ := band h
      obtain ⟨h2, h3⟩ := band h2
      obtain ⟨h3, h4⟩ := band h3
      obtain ⟨h4, h5⟩ := band h4
      obtain ⟨h5, h6⟩ := band h5
      obtain rfl := of_decide_eq_true h1
      obtain rfl := of_decide_eq_true h2
      unfold E.ok at ok
      unfold E.wp; exact pd_chain (cmpF_ok g.ru o) (cmpF_ok g.ru p) (E.snd a _ g ok.1 h3) (E.snd b _ g ok.2.1 h4) (E.snd d _ g ok.2.2 h5) (bnot h6)
    · cases h
  | .bop o es, c, X, x, g, ok, h => by
    unfold E.mt at h
    split at h
    · obtain ⟨h1, h2⟩ := band h
      obtain rfl := of_decide_eq_true h1
      unfold E.ok at ok
      unfold E.wp; exact Es.sndV es _ g ok h2
    · cases h
  | .not_ a, c, X, x, g, ok, h => by
    unfold E.mt at h
    split at h
    · unfold E.ok at ok
      unfold E.wp; exact pd_not (E.snd a _ g ok h)
    · cases h
  | .ife t a b, c, X, x, g, ok, h => by
    unfold E.mt at h
    split at h
    · obtain ⟨h1, h2⟩ := band h
      obtain ⟨h2, h3⟩ := band h2
      unfold E.ok at ok
      unfold E.wp; exact pd_if (E.sndT t _ g ok.1 h1) (E.snd a _ g ok.2.1 h2) (E.snd b _ g ok.2.2 h3)
    · cases h
  | .idx a b, c, X, x, g, ok, h => by
    unfold E.mt at h
    split at h
    · obtain ⟨h1, h2⟩ := band h
      obtain ⟨h2, h3⟩ := band h2
      unfold E.ok at ok
      unfold E.wp; exact pd_ix (E.snd a _ g ok.1 h1) (E.snd b _ g ok.2 h2) (ix_plain h3)
    · cases h
  | .slc a lo hi, c, X, x, g, ok, h => by
    unfold E.mt at h
    split at h
    · obtain ⟨h1, h2⟩ := band h
      obtain ⟨h2, h3⟩ := band h2
      unfold E.ok at ok
      unfold E.wp; exact pd_slice (E.snd a _ g ok.1 h1) (Oe.snd lo _ g ok.2.1 h2) (Oe.snd hi _ g ok.2.2 h3)
    · cases h
  | .fld a C f, c, X, x, g, ok, h => by
    unfold E.mt at h
    split at h
    · obtain ⟨h1, h2⟩ := band h
      obtain ⟨h2, h3⟩ := band h2
      obtain rfl := of_decide_eq_true h1
      unfold E.ok at ok
      unfold E.wp; exact pd_fld ok.1 (E.snd a _ g ok.2 h2) h3
    · cases h
  | .isa a k f, c, X, x, g, ok, h => by
    unfold E.mt at h
    split at h
    · obtain ⟨h1, h2⟩ := band h
      obtain ⟨h2, h3⟩ := band h2
      obtain ⟨h3, h4⟩ := band h3
      obtain ⟨h4, h5⟩ := band h4
      obtain ⟨h5, h6⟩ := band h5
      obtain rfl := of_decide_eq_true h1
      unfold E.ok at ok
      unfold E.wp
      refine isa_pe ok.1 (E.snd a _ g ok.2 h3) h4 (g.gl h2).1 (g.gl h5) ?_
      cases k with
      | bty t =>
        obtain ⟨h6, h7⟩ := band h6
        exact ⟨of_decide_eq_true h6, h7⟩
      | own z C => exact of_decide_eq_true h6
    · cases h
  | .bcall b es, c, X, x, g, ok, h => by
    unfold E.mt at h
    split at h
    · obtain ⟨h1, h2⟩ := band h
      obtain ⟨h2, h3⟩ := band h2
      obtain rfl := of_decide_eq_true h1
      unfold E.ok at ok
      obtain ⟨a1, a2⟩ := Es.snd es _ g ok.2.2 h3
      unfold E.wp; exact b.pe g.ru g.calm ok.2.1 (g.gl h2).1 ok.1 (pdn_a a1) a2
    · cases h
  | .bm m a es, c, X, x, g, ok, h => by
    unfold E.mt at h
    split at h
    · obtain ⟨h1, h2⟩ := band h
      obtain ⟨h2, h3⟩ := band h2
      obtain ⟨h3, h4⟩ := band h3
      obtain ⟨h4, h5⟩ := band h4
      obtain ⟨h5, h6⟩ := band h5
      obtain rfl := of_decide_eq_true h1
      unfold E.ok at ok
      obtain ⟨a1, a2⟩ := Es.snd es _ g ok.2 h3
      unfold E.wp; exact m.pe g.ru (E.snd a _ g ok.1 h2) (pdn_a a1) h4 a2 (of_decide_eq_true h5) h6
    · cases h
  | .call n S es, c, X, x, g, ok, h => by
    unfold E.mt at h
    split at h
    · obtain ⟨h1, h2⟩ := band h
      obtain ⟨h2, h3⟩ := band h2
      obtain rfl := of_decide_eq_true h1
      unfold E.ok at ok
      obtain ⟨a1, a2⟩ := Es.snd es _ g ok.2 h3
      unfold E.wp; exact call_case ok.1 g h2 h3 a1 a2
    · cases h
  | .callK n S es ks kes, c, X, x, g, ok, h => by
    unfold E.mt at h
    split at h
    · obtain ⟨h1, h2⟩ := band h
      obtain ⟨h2, h3⟩ := band h2
      obtain ⟨h3, h4⟩ := band h3
      obtain ⟨h4, h5⟩ := band h4
      obtain rfl := of_decide_eq_true h1
      unfold E.ok at ok
      obtain ⟨a1, a2⟩ := Es.snd es _ g ok.2.2.1 h3
      have a3 := Es.sndK kes _ g ok.2.2.2 h4
      rw [ok.2.1] at a3
      unfold E.wp; exact callK_case ok.1 g h2 h3 a1 a2 a3 (of_decide_eq_true h5)
    · cases h
  | .big, c, X, x, g, ok, h => by
    unfold E.mt at h
    split at h
    · obtain ⟨h1, h2⟩ := band h
      obtain ⟨k2, k3⟩ := band h2
      obtain ⟨h3, k4⟩ := band k3
      obtain ⟨h4, h5⟩ := band k4
      clear h h2 k3 k4
      obtain rfl := of_decide_eq_true h1
      obtain rfl := of_decide_eq_true h3
      obtain rfl := of_decide_eq_true h4
      obtain rfl := of_decide_eq_true h5
      unfold E.ok at ok
      unfold E.wp; exact big_pe ok.1 ok.2 (g.gl k2).1
    · cases h
  | .lenO C S a, c, X, x, g, ok, h => by
    unfold E.mt at h
    split at h
    · obtain ⟨h1, h2⟩ := band h
      obtain ⟨h2, h3⟩ := band h2
      obtain ⟨h3, h4⟩ := band h3
      obtain rfl := of_decide_eq_true h1
      unfold E.ok at ok
      unfold E.wp
      exact callB_pe (cd_lenO ok.2.1) PySem.boot_len (by decide) (by decide) (g.gl h2).1 ok.1 (pda_cons (E.snd a _ g ok.2.2 h3) pda_nil (star_of h4 _ _)) (by simp [h4])
    · cases h
  | .dnew kd, c, X, x, g, ok, h => by
    unfold E.mt at h
    split at h
    · unfold E.ok at ok
      unfold E.wp
      exact pd_dnew kd (by cases kd <;> exact ok)
    · cases h
  | .inX P w neg a b, c, X, x, g, ok, h => by
    unfold E.mt at h
    split at h
    · obtain ⟨h1, j2⟩ := band h
      obtain ⟨h2, j3⟩ := band j2
      obtain ⟨h3, h4⟩ := band j3
      clear h j2 j3
      obtain rfl := of_decide_eq_true h1
      unfold E.ok at ok
      unfold E.wp
      exact pd_cmp (od_inX P w ok.1 ok.2.1 neg g.ru) (E.snd a _ g ok.2.2.1 h2) (E.snd b _ g ok.2.2.2 h3) (bnot h4)
    · cases h
  | .getX P w a b, c, X, x, g, ok, h => by
    unfold E.mt at h
    split at h
    · obtain ⟨h1, h2⟩ := band h
      obtain ⟨h2, h3⟩ := band h2
      unfold E.ok at ok
      unfold E.wp; exact pd_getX ok.1 ok.2.1 g.ru (E.snd a _ g ok.2.2.1 h1) (E.snd b _ g ok.2.2.2 h2) (ix_plain h3)
    · cases h
  | .dcp P w a, c, X, x, g, ok, h => by
    unfold E.mt at h
    split at h
    · obtain ⟨h1, h2⟩ := band h
      obtain ⟨h2, h3⟩ := band h2
      obtain ⟨h3, h4⟩ := band h3
      obtain rfl := of_decide_eq_true h1
      unfold E.ok at ok
      unfold E.wp
      exact callT_pe (cd_dcp ok.2.1 ok.2.2.1 g.ru) (by decide +kernel) (by decide) (by decide) (g.gl h2).1 ok.1 (pda_cons (E.snd a _ g ok.2.2.2 h3) pda_nil (star_of h4 _ _)) (by simp [h4])
    · cases h
  | .sortX a, c, X, x, g, ok, h => by
    unfold E.mt at h
    split at h
    · obtain ⟨h1, h2⟩ := band h
      obtain ⟨h2, h3⟩ := band h2
      obtain ⟨h3, h4⟩ := band h3
      obtain rfl := of_decide_eq_true h1
      unfold E.ok at ok
      unfold E.wp
      exact callB_pe (cd_sortX g.calm g.ru) PyProof.Rows.boot_sorted (by decide) (by decide) (g.gl h2).1 ok.1 (pda_cons (E.snd a _ g ok.2 h3) pda_nil (star_of h4 _ _)) (by simp [h4])
    · cases h
  | .meth C m S a es, c, X, x, g, ok, h => by
    unfold E.mt at h
    split at h
    · obtain ⟨h1, h2⟩ := band h
      obtain ⟨h2, h3⟩ := band h2
      obtain ⟨h3, h4⟩ := band h3
      obtain ⟨h4, h5⟩ := band h4
      obtain ⟨h5, h6⟩ := band h5
      obtain rfl := of_decide_eq_true h1
      unfold E.ok at ok
      unfold E.wp
      exact meth_case ok.1 (E.snd a _ g ok.2.1 h2) (Es.snd es _ g ok.2.2 h3) h3 h4 (of_decide_eq_true h5) h6
    · cases h
  | .dc kd own gt w t kx vx, c, X, x, g, ok, h => by
    unfold E.mt at h
    split at h
    · obtain ⟨h1, h2⟩ := band h
      obtain ⟨h2, h3⟩ := band h2
      obtain ⟨h3, h4⟩ := band h3
      obtain ⟨h4, h5⟩ := band h4
      obtain ⟨h5, h6⟩ := band h5
      obtain ⟨h6, h7⟩ := band h6
      obtain ⟨h7, h8⟩ := band h7
      obtain ⟨h8, h9⟩ := band h8
      obtain rfl := of_decide_eq_true h1
      unfold E.ok at ok
      unfold E.wp
      refine pd_dc kd (by cases kd <;> exact ok.1) g.ru g.calm g.nd (Wk.snd w _ _ g ok.2.1 h4) (blkOk_by (by rw [g.n, g.sc]; exact h2)) (fun s H C cl fp => Tg.snd (g.blk) gt _ h5) (fun s H C cl fp => Oe.sndI t _ (g.blk (s := s) (H := H) (cl := cl) (C := C) (fp := fp)) ok.2.2.1 h6) (fun s H C cl fp => E.snd kx _ (g.blk (s := s) (H := H) (cl := cl) (C := C) (fp := fp)) ok.2.2.2.1 h7) (fun s H C cl fp => E.snd vx _ (g.blk (s := s) (H := H) (cl := cl) (C := C) (fp := fp)) ok.2.2.2.2 h8) (fun v => set_plain h3 _ v) ?_
      intro j hj
      have := List.all_eq_true.mp h9 j hj
      simpa using this
    · cases h
  | .popL a, c, X, x, g, ok, h => by
    unfold E.mt at h
    split at h
    · obtain ⟨h1, h2⟩ := band h
      obtain ⟨h2, h3⟩ := band h2
      obtain ⟨h3, h4⟩ := band h3
      obtain rfl := of_decide_eq_true h1
      unfold E.ok at ok
      unfold E.wp
      exact pd_pop (E.snd a _ g ok h2) h3 h4
    · cases h
  | .popX P w a b, c, X, x, g, ok, h => by
    unfold E.mt at h
    split at h
    · obtain ⟨h1, h2⟩ := band h
      obtain ⟨h2, h3⟩ := band h2
      obtain ⟨h3, h4⟩ := band h3
      obtain ⟨h4, h5⟩ := band h4
      obtain ⟨h5, h6⟩ := band h5
      obtain rfl := of_decide_eq_true h1
      unfold E.ok at ok
      unfold E.wp
      exact pd_popX ok.1 ok.2.1 g.ru (E.snd a _ g ok.2.2.1 h2) (E.snd b _ g ok.2.2.2 h3) h4 h5 h6
    · cases h
  | .rev a, c, X, x, g, ok, h => by
    unfold E.mt at h
    split at h
    · obtain ⟨h1, h2⟩ := band h
      obtain rfl := of_decide_eq_true h1
      unfold E.ok at ok
      unfold E.wp
      exact pd_rev (E.snd a _ g ok h2)
    · cases h
  | .ssI a, c, X, x, g, ok, h => by
    unfold E.mt at h
    split at h
    · obtain ⟨h1, k1⟩ := band h
      obtain ⟨h2, k2⟩ := band k1
      obtain ⟨h3, k3⟩ := band k2
      obtain ⟨h4, k4⟩ := band k3
      obtain ⟨h5, h6⟩ := band k4
      obtain rfl := of_decide_eq_true h1
      obtain rfl := of_decide_eq_true h2
      unfold E.ok at ok
      unfold E.wp
      exact pd_ss g.calm (g.gl h3).1 ok.1 (g.gl h4).1 ok.2.1 (E.snd a _ g ok.2.2 h5) h6
    · cases h
  | .ssT a, c, X, x, g, ok, h => by
    unfold E.mt at h
    split at h
    · obtain ⟨h1, k1⟩ := band h
      obtain ⟨h2, k2⟩ := band k1
      obtain ⟨h3, k3⟩ := band k2
      obtain ⟨h4, k4⟩ := band k3
      obtain ⟨h5, h6⟩ := band k4
      obtain rfl := of_decide_eq_true h1
      obtain rfl := of_decide_eq_true h2
      unfold E.ok at ok
      unfold E.wp
      exact pd_ssT g.calm g.ru (g.gl h3).1 ok.1 (g.gl h4).1 ok.2.1 (E.snd a _ g ok.2.2 h5) h6
    · cases h
  | .tupX a, c, X, x, g, ok, h => by
    unfold E.mt at h
    split at h
    · obtain ⟨h1, h2⟩ := band h
      obtain ⟨h2, h3⟩ := band h2
      obtain ⟨h3, h4⟩ := band h3
      obtain rfl := of_decide_eq_true h1
      unfold E.ok at ok
      unfold E.wp
      exact callT_pe cd_tupX (by decide +kernel) (by decide) (by decide) (g.gl h2).1 ok.1 (pda_cons (E.snd a _ g ok.2 h3) pda_nil (star_of h4 _ _)) (by simp [h4])
    · cases h
  | .hole w m, c, X, x, g, ok, h => by
    unfold E.ok at ok
    unfold E.mt at h
    unfold E.wp
    exact (ok c X x g rfl h).1
  | .xf a C f, c, X, x, g, ok, h => by
    unfold E.mt at h
    split at h
    · obtain ⟨h1, h2⟩ := band h
      obtain ⟨h2, h3⟩ := band h2
      obtain rfl := of_decide_eq_true h1
      unfold E.ok at ok
      unfold E.wp; exact pd_xf ok.1 (E.snd a _ g ok.2 h2) h3
    · cases h
  | .rgC t a, c, X, x, g, ok, h => by
    unfold E.mt at h
    split at h
    · obtain ⟨h1, k1⟩ := band h
      obtain ⟨h2, k2⟩ := band k1
      obtain ⟨h3, k3⟩ := band k2
      obtain ⟨h4, k4⟩ := band k3
      obtain ⟨h5, h6⟩ := band k4
      obtain rfl := of_decide_eq_true h1
      obtain rfl := of_decide_eq_true h2
      unfold E.ok at ok
      unfold E.wp
      exact pd_rgC t g.calm (g.gl h3).1 ok.1 (g.gl h4).1 ok.2.1 (E.snd a _ g ok.2.2 h5) h6
    · cases h
  | .lc2 own gt w t gt1 w1 t1 elt, c, X, x, g, ok, h => by
    unfold E.mt at h
    split at h
    · obtain ⟨h1, h⟩ := band h
      obtain ⟨h1b, h⟩ := band h
      obtain ⟨h2, h⟩ := band h
      obtain ⟨h3, h⟩ := band h
      obtain ⟨h3b, h⟩ := band h
      obtain ⟨h4, h⟩ := band h
      obtain ⟨h5, h⟩ := band h
      obtain ⟨h6, h⟩ := band h
      obtain ⟨h7, h⟩ := band h
      obtain ⟨h8, h⟩ := band h
      obtain ⟨h9, h⟩ := band h
      obtain ⟨h10, h⟩ := band h
      obtain ⟨h11, h12⟩ := band h
      obtain rfl := of_decide_eq_true h1
      obtain rfl := of_decide_eq_true h1b
      unfold E.ok at ok
      unfold E.wp
      have c1 : ∀ j ∈ gt.slots, j ∈ own.map (·.2) := fun j hj => by
        have := List.all_eq_true.mp h11 j hj
        simpa using this
      have c2 : ∀ j ∈ gt1.slots, j ∈ own.map (·.2) := fun j hj => by
        have := List.all_eq_true.mp h12 j hj
        simpa using this
      exact pd_lc2 g.calm g.nd (Wk.snd w _ _ g ok.1 h4) (blkOk_by (by rw [g.n, g.sc]; exact h2)) c2 (fun s H C cl fp => Tg.snd (g.blk) gt _ h5) (fun s H C cl fp => Oe.sndI t _ (g.blk (s := s) (H := H) (cl := cl) (C := C) (fp := fp)) ok.2.1 h6)
        (fun s H C cl fp => Wk.snd w1 _ _ (g.blk (s := s) (H := H) (cl := cl) (C := C) (fp := fp)) ok.2.2.1 h7) (fun s H C cl fp => Tg.snd (g.blk) gt1 _ h8) (fun s H C cl fp => Oe.sndI t1 _ (g.blk (s := s) (H := H) (cl := cl) (C := C) (fp := fp)) ok.2.2.2.1 h9)
        (fun s H C cl fp => E.snd elt _ (g.blk (s := s) (H := H) (cl := cl) (C := C) (fp := fp)) ok.2.2.2.2 h10) (fun v => set_plain h3 _ v) (fun env v => set_plain h3b _ v) c1 (fun j hj => hj)
    · cases h
  | .lc own gt w t elt, c, X, x, g, ok, h => by
    unfold E.mt at h
    split at h
    · obtain ⟨h1, h2⟩ := band h
      obtain ⟨h2, h3⟩ := band h2
      obtain ⟨h3, h4⟩ := band h3
      obtain ⟨h4, h5⟩ := band h4
      obtain ⟨h5, h6⟩ := band h5
      obtain ⟨h6, h7⟩ := band h6
      obtain ⟨h7, h8⟩ := band h7
      obtain rfl := of_decide_eq_true h1
      unfold E.ok at ok
      unfold E.wp
      refine pd_lc g.calm g.nd (Wk.snd w _ _ g ok.1 h4) (blkOk_by (by rw [g.n, g.sc]; exact h2)) (fun s H C cl fp => Tg.snd (g.blk) gt _ h5) (fun s H C cl fp => Oe.sndI t _ (g.blk (s := s) (H := H) (cl := cl) (C := C) (fp := fp)) ok.2.1 h6) (fun s H C cl fp => E.snd elt _ (g.blk (s := s) (H := H) (cl := cl) (C := C) (fp := fp)) ok.2.2 h7) (fun v => set_plain h3 _ v) ?_
      intro j hj
      have := List.all_eq_true.mp h8 j hj
      simpa using this
    · cases h
theorem E.sndT : ∀ (e : E) {c : Sc} {X : Cx} (x : Expr), Gd c X → e.ok (co X) → e.mt c x = true → PT X x (tDT X.K e.wpT)
  | .var i, c, X, x, g, ok, h => by
    unfold E.mt at h
    split at h
    · unfold E.wpT; exact pdt_truth (pd_var (x := "") (g.var h)) (test_plain rfl _)
    · cases h
  | .bl i, c, X, x, g, ok, h => by
    unfold E.mt at h
    split at h
    · obtain rfl := of_decide_eq_true h
      unfold E.wpT; exact pdt_truth (pd_c pe_bl fun H => by unfold Rep; rfl) (test_plain rfl _)
    · cases h
  | .cmpD a b, c, X, x, g, ok, h => by
    unfold E.mt at h
    split at h
    · obtain ⟨h1, h2⟩ := band h
      obtain ⟨h2, h3⟩ := band h2
      obtain ⟨h3, h4⟩ := band h3
      obtain rfl := of_decide_eq_true h1
      unfold E.ok at ok
      unfold E.wpT; exact pdt_cmp (od_eqTD g.ru) (E.snd a _ g ok.1 h2) (E.snd b _ g ok.2 h3) (bnot h4)
    · cases h
  | .upper _, c, X, x, g, ok, h => by unfold E.wpT; exact never_t
  | .cmp o a b, c, X, x, g, ok, h => by
    unfold E.mt at h
    split at h
    · obtain ⟨h1, h2⟩ := band h
      obtain ⟨h2, h3⟩ := band h2
      obtain ⟨h3, h4⟩ := band h3
      obtain rfl := of_decide_eq_true h1
      unfold E.ok at ok
      unfold E.wpT; exact pdt_cmp (cmpF_ok g.ru o) (E.snd a _ g ok.1 h2) (E.snd b _ g ok.2 h3) (bnot h4)
    · cases h
  | .chain o p a b d, c, X, x, g, ok, h => by
    unfold E.mt at h
    split at h
    · obtain ⟨h1, h2⟩ := band h
      obtain ⟨h2, h3⟩ := band h2
      obtain ⟨h3, h4⟩ := band h3
      obtain ⟨h4, h5⟩ := band h4
      obtain ⟨h5, h6⟩ := band h5
      obtain rfl := of_decide_eq_true h1
      obtain rfl := of_decide_eq_true h2
      unfold E.ok at ok
      unfold E.wpT; exact pdt_chain (cmpF_ok g.ru o) (cmpF_ok g.ru p) (E.snd a _ g ok.1 h3) (E.snd b _ g ok.2.1 h4) (E.snd d _ g ok.2.2 h5) (bnot h6)
    · cases h
  | .bop o es, c, X, x, g, ok, h => by
    unfold E.mt at h
    split at h
    · obtain ⟨h1, h2⟩ := band h
      obtain rfl := of_decide_eq_true h1
      unfold E.ok at ok
      unfold E.wpT; exact (Es.sndT es _ g ok h2).pt
    · cases h
  | .not_ a, c, X, x, g, ok, h => by
    unfold E.mt at h
    split at h
    · unfold E.ok at ok
      unfold E.wpT; exact pdt_not (E.sndT a _ g ok h)
    · cases h
  | .idx a b, c, X, x, g, ok, h => by
    unfold E.mt at h
    split at h
    · obtain ⟨h1, h2⟩ := band h
      obtain ⟨h2, h3⟩ := band h2
      unfold E.ok at ok
      unfold E.wpT; exact pdt_truth (pd_ix (E.snd a _ g ok.1 h1) (E.snd b _ g ok.2 h2) (ix_plain h3)) (test_plain rfl _)
    · cases h
  | .fld a C f, c, X, x, g, ok, h => by
    unfold E.mt at h
    split at h
    · obtain ⟨h1, h2⟩ := band h
      obtain ⟨h2, h3⟩ := band h2
      obtain rfl := of_decide_eq_true h1
      unfold E.ok at ok
      unfold E.wpT; exact pdt_truth (pd_fld ok.1 (E.snd a _ g ok.2 h2) h3) (test_plain rfl _)
    · cases h
  | .isa a k f, c, X, x, g, ok, h => by
    unfold E.mt at h
    split at h
    · obtain ⟨h1, h2⟩ := band h
      obtain ⟨h2, h3⟩ := band h2
      obtain ⟨h3, h4⟩ := band h3
      obtain ⟨h4, h5⟩ := band h4
      obtain ⟨h5, h6⟩ := band h5
      obtain rfl := of_decide_eq_true h1
      unfold E.ok at ok
      unfold E.wpT
      refine pdt_truth (isa_pe ok.1 (E.snd a _ g ok.2 h3) h4 (g.gl h2).1 (g.gl h5) ?_) (test_plain rfl _)
      cases k with
      | bty t =>
        obtain ⟨h6, h7⟩ := band h6
        exact ⟨of_decide_eq_true h6, h7⟩
      | own z C => exact of_decide_eq_true h6
    · cases h
  | .bcall b es, c, X, x, g, ok, h => by
    unfold E.mt at h
    split at h
    · obtain ⟨h1, h2⟩ := band h
      obtain ⟨h2, h3⟩ := band h2
      obtain rfl := of_decide_eq_true h1
      unfold E.ok at ok
      obtain ⟨a1, a2⟩ := Es.snd es _ g ok.2.2 h3
      unfold E.wpT; exact pdt_truth (b.pe g.ru g.calm ok.2.1 (g.gl h2).1 ok.1 (pdn_a a1) a2) (test_plain rfl _)
    · cases h
  | .call n S es, c, X, x, g, ok, h => by
    unfold E.mt at h
    split at h
    · obtain ⟨h1, h2⟩ := band h
      obtain ⟨h2, h3⟩ := band h2
      obtain rfl := of_decide_eq_true h1
      unfold E.ok at ok
      obtain ⟨a1, a2⟩ := Es.snd es _ g ok.2 h3
      unfold E.wpT; exact pdt_truth (call_case ok.1 g h2 h3 a1 a2) (test_plain rfl _)
    · cases h
  | .inX P w neg a b, c, X, x, g, ok, h => by
    unfold E.mt at h
    split at h
    · obtain ⟨h1, j2⟩ := band h
      obtain ⟨h2, j3⟩ := band j2
      obtain ⟨h3, h4⟩ := band j3
      clear h j2 j3
      obtain rfl := of_decide_eq_true h1
      unfold E.ok at ok
      unfold E.wpT
      exact pdt_cmp (od_inX P w ok.1 ok.2.1 neg g.ru) (E.snd a _ g ok.2.2.1 h2) (E.snd b _ g ok.2.2.2 h3) (bnot h4)
    · cases h
  | .meth C m S a es, c, X, x, g, ok, h => by
    unfold E.mt at h
    split at h
    · obtain ⟨h1, h2⟩ := band h
      obtain ⟨h2, h3⟩ := band h2
      obtain ⟨h3, h4⟩ := band h3
      obtain ⟨h4, h5⟩ := band h4
      obtain ⟨h5, h6⟩ := band h5
      obtain rfl := of_decide_eq_true h1
      unfold E.ok at ok
      unfold E.wpT
      exact pdt_truth (meth_case ok.1 (E.snd a _ g ok.2.1 h2) (Es.snd es _ g ok.2.2 h3) h3 h4 (of_decide_eq_true h5) h6) (test_plain rfl _)
    · cases h
  | .dnew _, c, X, x, g, ok, h => by unfold E.wpT; exact never_t
  | .getX _ _ _ _, c, X, x, g, ok, h => by unfold E.wpT; exact never_t
  | .sortX _, c, X, x, g, ok, h => by unfold E.wpT; exact never_t
  | .dcp _ _ _, c, X, x, g, ok, h => by unfold E.wpT; exact never_t
  | .popL _, c, X, x, g, ok, h => by unfold E.wpT; exact never_t
  | .popX _ _ _ _, c, X, x, g, ok, h => by unfold E.wpT; exact never_t
  | .rgC _ _, c, X, x, g, ok, h => by unfold E.wpT; exact never_t
  | .ssI _, c, X, x, g, ok, h => by unfold E.wpT; exact never_t
  | .ssT _, c, X, x, g, ok, h => by unfold E.wpT; exact never_t
  | .tupX _, c, X, x, g, ok, h => by unfold E.wpT; exact never_t
  | .hole w m, c, X, x, g, ok, h => by
    unfold E.ok at ok
    unfold E.mt at h
    unfold E.wpT
    exact pdt_truth (ok c X x g rfl h).1 (test_plain (ok c X x g rfl h).2 _)
  | .xf _ _ _, c, X, x, g, ok, h => by unfold E.wpT; exact never_t
  | .rev _, c, X, x, g, ok, h => by unfold E.wpT; exact never_t
  | .lc2 _ _ _ _ _ _ _ _, c, X, x, g, ok, h => by unfold E.wpT; exact never_t
  | .big, c, X, x, g, ok, h => by unfold E.wpT; exact never_t
  | .lenO _ _ _, c, X, x, g, ok, h => by unfold E.wpT; exact never_t
  | .dc _ _ _ _ _ _ _, c, X, x, g, ok, h => by unfold E.wpT; exact never_t
  | .int _, c, X, x, g, ok, h => by unfold E.wpT; exact never_t
  | .str _, c, X, x, g, ok, h => by unfold E.wpT; exact never_t
  | .non, c, X, x, g, ok, h => by unfold E.wpT; exact never_t
  | .glob _ _, c, X, x, g, ok, h => by unfold E.wpT; exact never_t
  | .tup _, c, X, x, g, ok, h => by unfold E.wpT; exact never_t
  | .lst _, c, X, x, g, ok, h => by unfold E.wpT; exact never_t
  | .bin _ _ _, c, X, x, g, ok, h => by unfold E.wpT; exact never_t
  | .neg _, c, X, x, g, ok, h => by unfold E.wpT; exact never_t
  | .ife t a b, c, X, x, g, ok, h => by
    unfold E.mt at h
    split at h
    · obtain ⟨h1, h2⟩ := band h
      obtain ⟨h2, h3⟩ := band h2
      unfold E.ok at ok
      unfold E.wpT; exact pdt_if (E.sndT t _ g ok.1 h1) (E.sndT a _ g ok.2.1 h2) (E.sndT b _ g ok.2.2 h3)
    · cases h
  | .slc _ _ _, c, X, x, g, ok, h => by unfold E.wpT; exact never_t
  | .bm _ _ _, c, X, x, g, ok, h => by unfold E.wpT; exact never_t
  | .callK _ _ _ _ _, c, X, x, g, ok, h => by unfold E.wpT; exact never_t
  | .lc _ _ _ _ _, c, X, x, g, ok, h => by unfold E.wpT; exact never_t
theorem Es.sndT : ∀ (e : Es) {c : Sc} {X : Cx} (x : List Expr) {o : BoolOp} {pos : Pos}, Gd c X → e.ok (co X) → e.mt c x = true → PW X (.BoolOp o x pos) (tDT X.K (e.wpT o))
  | .nil, c, X, x, o, pos, g, ok, h => by unfold Es.wpT; exact never_w
  | .cons e .nil, c, X, x, o, pos, g, ok, h => by
    unfold Es.mt at h
    split at h
    · obtain ⟨h1, h2⟩ := band h
      obtain ⟨k2, k3⟩ := band h2
      clear h2 h
      unfold Es.ok at ok
      unfold Es.mt at k3
      split at k3
      · unfold Es.wpT
        cases o with
        | And => exact pw_and1 (E.sndT e _ g ok.1 k2)
        | Or => exact pw_or1 (E.sndT e _ g ok.1 k2)
      · cases k3
    · cases h
  | .cons e (.cons e2 es), c, X, x, o, pos, g, ok, h => by
    unfold Es.mt at h
    split at h
    · obtain ⟨h1, h2⟩ := band h
      obtain ⟨k2, k3⟩ := band h2
      clear h2 h
      unfold Es.ok at ok
      have ih := Es.sndT (.cons e2 es) _ (o := o) (pos := pos) g ok.2 k3
      unfold Es.mt at k3
      split at k3
      · cases o with
        | And => unfold Es.wpT; exact pdw_and (E.sndT e _ g ok.1 k2) ih
        | Or => unfold Es.wpT; exact pdw_or (E.sndT e _ g ok.1 k2) ih
      · cases k3
    · cases h
theorem Es.snd : ∀ (e : Es) {c : Sc} {X : Cx} (x : List Expr), Gd c X → e.ok (co X) → e.mt c x = true → PA X x (tDN X.K e.len e.wp) ∧ x.all notStar = true
  | .nil, c, X, x, g, ok, h => by
    unfold Es.mt at h
    split at h
    · unfold Es.wp; exact ⟨pdn_nil, rfl⟩
    · cases h
  | .cons e es, c, X, x, g, ok, h => by
    unfold Es.mt at h
    split at h
    · obtain ⟨h1, h2⟩ := band h
      obtain ⟨h2, h3⟩ := band h2
      unfold Es.ok at ok
      obtain ⟨a1, a2⟩ := Es.snd es _ g ok.2 h3
      unfold Es.wp Es.len
      exact ⟨pdn_cons (E.snd e _ g ok.1 h2) a1 (star_of h1 _ _), by rw [List.all_cons, h1, a2]; rfl⟩
    · cases h
theorem Es.sndK : ∀ (e : Es) {c : Sc} {X : Cx} (x : List Keyword), Gd c X → e.ok (co X) → e.mtK c x = true → PK X x (tDN X.K e.len e.wp)
  | .nil, c, X, x, g, ok, h => by
    unfold Es.mtK at h
    split at h
    · unfold Es.wp; exact pdk_nil
    · cases h
  | .cons e es, c, X, x, g, ok, h => by
    unfold Es.mtK at h
    split at h
    · obtain ⟨h2, h3⟩ := band h
      unfold Es.ok at ok
      unfold Es.wp Es.len
      exact pdk_cons (E.snd e _ g ok.1 h2) (Es.sndK es _ g ok.2 h3)
    · cases h
theorem Es.sndV : ∀ (e : Es) {c : Sc} {X : Cx} (x : List Expr) {o : BoolOp} {pos : Pos}, Gd c X → e.ok (co X) → e.mt c x = true → PE X (.BoolOp o x pos) (tD X.K (e.wpV o))
  | .nil, c, X, x, o, pos, g, ok, h => by unfold Es.wpV; exact never_e
  | .cons e .nil, c, X, x, o, pos, g, ok, h => by
    unfold Es.mt at h
    split at h
    · obtain ⟨h1, h2⟩ := band h
      obtain ⟨k2, k3⟩ := band h2
      clear h2 h
      unfold Es.ok at ok
      unfold Es.mt at k3
      split at k3
      · unfold Es.wpV
        exact pe_one (E.snd e _ g ok.1 k2)
      · cases k3
    · cases h
  | .cons e (.cons e2 es), c, X, x, o, pos, g, ok, h => by
    unfold Es.mt at h
    split at h
    · obtain ⟨h1, h2⟩ := band h
      obtain ⟨k2, k3⟩ := band h2
      clear h2 h
      unfold Es.ok at ok
      have ih := Es.sndV (.cons e2 es) _ (o := o) (pos := pos) g ok.2 k3
      unfold Es.mt at k3
      split at k3
      · cases o with
        | And => unfold Es.wpV; exact pd_and (E.snd e _ g ok.1 k2) ih
        | Or => unfold Es.wpV; exact pd_or (E.snd e _ g ok.1 k2) ih
      · cases k3
    · cases h
theorem Oe.snd : ∀ (e : Oe) {c : Sc} {X : Cx} (x : Option Expr), Gd c X → e.ok (co X) → e.mt c x = true → PO X x (tDO X.K e.wpO)
  | .none, c, X, x, g, ok, h => by
    unfold Oe.mt at h
    split at h
    · unfold Oe.wpO; exact pdo_none
    · cases h
  | .some e, c, X, x, g, ok, h => by
    unfold Oe.mt at h
    split at h
    · unfold Oe.ok at ok
      unfold Oe.wpO; exact pdo_some (E.snd e _ g ok h)
    · cases h
theorem Oe.sndI : ∀ (e : Oe) {c : Sc} {X : Cx} (x : List Expr), Gd c X → e.ok (co X) → e.mtI c x = true → PTs X x (tDT X.K e.wpT)
  | .none, c, X, x, g, ok, h => by
    unfold Oe.mtI at h
    split at h
    · unfold Oe.wpT
      refine ⟨fun pins s σ H Q I hq => pts_nil.run pins s σ H Q I ?_⟩
      obtain ⟨ρ, M, F, Q0, s0, q, gg⟩ := hq
      exact gg _ M H q (.refl _) s0.fr.frm s0.rm
    · cases h
  | .some e, c, X, x, g, ok, h => by
    unfold Oe.mtI at h
    split at h
    · unfold Oe.ok at ok
      unfold Oe.wpT; exact pts_one (E.sndT e _ g ok h)
    · cases h
theorem Wk.snd : ∀ (w : Wk) {c : Sc} {X : Cx} (tg x : Expr), Gd c X → w.ok (co X) → w.mt c tg x = true → PI X tg x (iD X.K w.wp)
  | .seq e, c, X, tg, x, g, ok, h => by
    unfold Wk.mt at h; unfold Wk.ok at ok; unfold Wk.wp
    exact pid_seq (E.snd e _ g ok h)
  | .str e, c, X, tg, x, g, ok, h => by
    unfold Wk.mt at h; unfold Wk.ok at ok; unfold Wk.wp
    exact pid_str (E.snd e _ g ok h)
  | .enm e, c, X, tg, x, g, ok, h => by
    unfold Wk.mt at h
    split at h
    · obtain ⟨h0, h⟩ := band h
      obtain ⟨h1, h2⟩ := band h
      obtain ⟨h2, h3⟩ := band h2
      obtain ⟨h3, h4⟩ := band h3
      obtain rfl := of_decide_eq_true h1
      unfold Wk.ok at ok; unfold Wk.wp
      cases tg <;> first | (cases h0; done) | skip
      exact pid_en (E.snd e _ g ok.2 h4) (g.gl h2).1 ok.1 (star_of h3 _ _)
    · cases h
  | .r1 e, c, X, tg, x, g, ok, h => by
    unfold Wk.mt at h
    split at h
    · obtain ⟨h1, h2⟩ := band h
      obtain ⟨h2, h3⟩ := band h2
      obtain ⟨h3, h4⟩ := band h3
      obtain rfl := of_decide_eq_true h1
      unfold Wk.ok at ok; unfold Wk.wp
      exact pid_r1 (E.snd e _ g ok.2 h4) (g.gl h2).1 ok.1 (star_of h3 _ _)
    · cases h
  | .zip a b, c, X, tg, x, g, ok, h => by
    unfold Wk.mt at h
    split at h
    · obtain ⟨h0, h⟩ := band h
      obtain ⟨h1, h2⟩ := band h
      obtain ⟨h2, h3⟩ := band h2
      obtain ⟨h3, h4⟩ := band h3
      obtain ⟨h4, h5⟩ := band h4
      obtain ⟨h5, h6⟩ := band h5
      obtain rfl := of_decide_eq_true h1
      unfold Wk.ok at ok; unfold Wk.wp
      cases tg <;> first | (cases h0; done) | skip
      exact pid_zip (E.snd a _ g ok.2.1 h4) (E.snd b _ g ok.2.2 h6) (g.gl h2).1 ok.1 (star_of h3 _ _) (star_of h5 _ _)
    · cases h
end
end DL
namespace DL
open PySem L2
def bkS (sc : Scope) : ScopeKind := if sc.kind.isAnnotationScope then .function else sc.kind
def spB (ts vs : List Expr) (sc : Scope) : Option (Option (List Str)) :=
  if (!(ts.length == 2 || ts.length == 3) || vs.length != ts.length || bkS sc != .function) = true then some none else
  if (vs.any fun | .Starred .. => true | _ => false) = true then some none else
  let line := (ts.head?.map (·.pos.line)).getD 0
  let names := ts.filterMap fun
    | .Name id pos => if (sc.names.lookup id == some .local && pos.line == line) = true then some id else none
    | _ => none
  if (names.length != ts.length || names.eraseDups.length != names.length) = true then some none else
  if (vs.all (foldedForSure 8)) = true then some none else
  if (vs.all (constantsAlone 8)) = true then none else some (some names)
theorem sp_ok {ts vs : List Expr} {k k2 : Nat} {p p2 : Pos} {env : Env} {r : Option (List Str)} (h : spB ts vs env.scope = some r) : swappedStores [.Tuple ts k p] (.Tuple vs k2 p2) env = pure r := by
  unfold spB at h
  unfold swappedStores
  show (if (!(ts.length == 2 || ts.length == 3) || vs.length != ts.length || env.blockKind != .function) = true then _ else _) = _
  by_cases h1 : (!(ts.length == 2 || ts.length == 3) || vs.length != ts.length || bkS env.scope != .function) = true
  · rw [if_pos h1] at h
    cases h
    exact if_pos h1
  · rw [if_neg h1] at h
    refine (if_neg h1).trans ?_
    split at h
    · rename_i h2
      cases h
      exact if_pos h2
    · rename_i h2
      refine (if_neg h2).trans ?_
      dsimp only at h ⊢
      split at h
      · rename_i h3
        cases h
        exact if_pos h3
      · rename_i h3
        refine (if_neg h3).trans ?_
        split at h
        · rename_i h4
          cases h
          exact if_pos h4
        · rename_i h4
          refine (if_neg h4).trans ?_
          split at h
          · cases h
          · rename_i h5
            cases h
            exact if_neg h5
def swN (c : Sc) (scope : Scope) (t : Str) (p pos : Pos) : Bool := bkS c.sc == .function && c.sc.names.lookup t == some .local && p.line == pos.line && !(scope.names.any fun (n, k) => n == t && (k == .local || k == .cell))
def swOk (c : Sc) (tg v : Expr) : Bool := match v with
  | .ListComp _ _ scope pos => (match tg with | .Name t p => !swN c scope t p pos | _ => true)
  | .SetComp _ _ scope pos => (match tg with | .Name t p => !swN c scope t p pos | _ => true)
  | .DictComp _ _ _ scope pos => (match tg with | .Name t p => !swN c scope t p pos | _ => true)
  | _ => true
def spOk (c : Sc) (tg v : Expr) : Bool := match tg, v with
  | .Tuple ts _ _, .Tuple vs _ _ => decide (spB ts vs c.sc = some none)
  | .List _ _, .Tuple _ _ _ => false
  | _, _ => true
theorem sw_l {c : Sc} {X : Cx} (g : Gd c X) {scope : Scope} {y : Str} {py pos : Pos} {el : Expr} {gs : List Comprehension} {l : Nat} : swapsWith (.ListComp el gs scope pos) (some (.Name y py)) l X.env = pure (swN c scope y py pos) := by unfold swN; rw [← g.sc]; rfl
theorem sw_s {c : Sc} {X : Cx} (g : Gd c X) {scope : Scope} {y : Str} {py pos : Pos} {el : Expr} {gs : List Comprehension} {l : Nat} : swapsWith (.SetComp el gs scope pos) (some (.Name y py)) l X.env = pure (swN c scope y py pos) := by unfold swN; rw [← g.sc]; rfl
theorem sw_d {c : Sc} {X : Cx} (g : Gd c X) {scope : Scope} {y : Str} {py pos : Pos} {el el' : Expr} {gs : List Comprehension} {l : Nat} : swapsWith (.DictComp el el' gs scope pos) (some (.Name y py)) l X.env = pure (swN c scope y py pos) := by unfold swN; rw [← g.sc]; rfl
theorem swOk_ok {c : Sc} {X : Cx} (g : Gd c X) {tg v : Expr} (h : swOk c tg v = true) (l : Nat) : swapsWithSole [tg] v l X.env = pure false := by
  show swapsWith v (some tg) l X.env = pure false
  cases v with
  | ListComp a b scope pos =>
    cases tg with
    | Name t p => rw [sw_l g, bnot h]
    | _ => rfl
  | SetComp a b scope pos =>
    cases tg with
    | Name t p => rw [sw_s g, bnot h]
    | _ => rfl
  | DictComp a a' b scope pos =>
    cases tg with
    | Name t p => rw [sw_d g, bnot h]
    | _ => rfl
  | _ => rfl
theorem sw_lc {c : Sc} {X : Cx} (g : Gd c X) {scope : Scope} {y : Str} {py pos : Pos} (h : swN c scope y py pos = true) {el : Expr} {gs : List Comprehension} {l : Nat} : swapsWith (.ListComp el gs scope pos) (some (.Name y py)) l X.env = pure true := by
  have e : swapsWith (.ListComp el gs scope pos) (some (.Name y py)) l X.env = pure (swN c scope y py pos) := by unfold swN; rw [← g.sc]; rfl
  rw [e, h]
theorem spOk_ok {c : Sc} {X : Cx} (g : Gd c X) {tg v : Expr} (h : spOk c tg v = true) : swappedStores [tg] v X.env = pure none := by
  cases v with
  | Tuple vs k p =>
    cases tg with
    | Tuple ts k2 p2 => exact sp_ok (by rw [g.sc]; exact of_decide_eq_true h)
    | List => cases h
    | _ => rfl
  | _ => cases tg <;> rfl
mutual
inductive S where
  | ret (e : E) | expr (e : E)
  | asg (g : Tg) (e : E)
  | setLc (i : Nat) (own : List (Str × Nat)) (g : Tg) (w : Wk) (t : Oe) (elt : E)
  | setLc2 (i : Nat) (own : List (Str × Nat)) (g : Tg) (w : Wk) (t : Oe) (g1 : Tg) (w1 : Wk) (t1 : Oe) (elt : E)
  | par (i j : Nat) (es : Es)
  | par3 (i j l : Nat) (es : Es)
  | fld (o : E) (C : Addr) (f : Str) (v : E)
  | setI (o i v : E)
  | parI (n : Nat) (o i v : E)
  | parK (kd : DcK) (n : Nat) (o i v : E)
  | setK (kd : DcK) (o i v : E)
  | ife (t : E) (a b : Ss)
  | for_ (g : Tg) (w : Wk) (b : Ss)
  | while_ (t : E) (b : Ss)
  | never | pass
inductive Ss where
  | nil
  | cons (s : S) (r : Ss)
end
mutual
def S.wp : S → WS
  | .ret e => wRet e.wp
  | .expr e => wDrop e.wp
  | .asg g e => wAsg e.wp g
  | .setLc i own g w t elt => wAsg (wLc w.wp g t.wpT elt.wp (own.map (·.2))) (.name i)
  | .setLc2 i own g w t g1 w1 t1 elt => wAsg (wLc2 w.wp g t.wpT w1.wp g1 t1.wpT elt.wp (own.map (·.2)) g1.slots) (.name i)
  | .par i j es => wPar i j es.wp
  | .par3 i j l es => wPar3 i j l es.wp
  | .fld o C f v => wFldS C f o.wp v.wp
  | .setI o i v => wSetI o.wp i.wp v.wp
  | .parI n o i v => wParI n o.wp i.wp v.wp
  | .parK kd n o i v => wParK kd n o.wp i.wp v.wp
  | .setK kd o i v => wSetK kd o.wp i.wp v.wp
  | .ife t a b => wIfS t.wpT a.wp b.wp
  | .for_ g w b => wFor w.wp g b.wp
  | .while_ t b => wWhile t.wpT b.wp
  | .never => wNever
  | .pass => wNext
def Ss.wp : Ss → WS
  | .nil => wNext
  | .cons s r => wSeq s.wp r.wp
end
mutual
def S.mt (c : Sc) : S → Stmt → Bool
  | .ret e, x => match x with
    | .Return (some v) _ => e.mt c v
    | _ => false
  | .expr e, x => match x with
    | .Expr v _ => e.mt c v && !isComp v
    | _ => false
  | .asg g e, x => match x with
    | .Assign [tg] v _ => g.mt c tg && (e.mt c v && (notStar tg && (swOk c tg v && spOk c tg v)))
    | _ => false
  | .setLc i own g w t elt, x => match x with
    | .Assign [.Name y py] (.ListComp el [⟨tg, iter, ifs, as⟩] scope pos) _ => decide (c.N[i]? = some y) && (decide (c.sc.names.lookup y = some .local) && (swN c scope y py pos && (decide (as = 0) && (blkC c.N c.sc scope own && (notSet iter && (w.mt c tg iter && (g.mt (c.blk scope) tg && (t.mtI (c.blk scope) ifs && (elt.mt (c.blk scope) el && g.slots.all fun j => (own.map (·.2)).contains j)))))))))
    | _ => false
  | .setLc2 i own g w t g1 w1 t1 elt, x => match x with
    | .Assign [.Name y py] (.ListComp el [⟨tg, iter, ifs, as⟩, ⟨tg1, iter1, ifs1, as1⟩] scope pos) _ => decide (c.N[i]? = some y) && (decide (c.sc.names.lookup y = some .local) && (swN c scope y py pos && (decide (as = 0) && (decide (as1 = 0) && (blkC c.N c.sc scope own && (notSet iter && (notSet iter1 && (w.mt c tg iter && (g.mt (c.blk scope) tg && (t.mtI (c.blk scope) ifs && (w1.mt (c.blk scope) tg1 iter1 && (g1.mt (c.blk scope) tg1 && (t1.mtI (c.blk scope) ifs1 && (elt.mt (c.blk scope) el && ((g.slots.all fun j => (own.map (·.2)).contains j) && g1.slots.all fun j => (own.map (·.2)).contains j)))))))))))))))
    | _ => false
  | .par i j es, x => match x with
    | .Assign [.Tuple [.Name y py, .Name z pz] _ _] (.Tuple [a, b] _ _) _ => decide (c.N[i]? = some y) && (decide (c.N[j]? = some z) && (decide (i ≠ j) && (decide (c.sc.names.lookup y = some .local) && (decide (c.sc.names.lookup z = some .local) && (es.mt c [a, b] && decide (spB [.Name y py, .Name z pz] [a, b] c.sc = some (some [y, z])))))))
    | _ => false
  | .par3 i j l es, x => match x with
    | .Assign [.Tuple [.Name y py, .Name z pz, .Name u pu] _ _] (.Tuple [a, b, d] _ _) _ => decide (c.N[i]? = some y) && (decide (c.N[j]? = some z) && (decide (c.N[l]? = some u) && (decide (i ≠ j ∧ i ≠ l ∧ j ≠ l) && (decide (c.sc.names.lookup y = some .local) && (decide (c.sc.names.lookup z = some .local) && (decide (c.sc.names.lookup u = some .local) && (es.mt c [a, b, d] && decide (spB [.Name y py, .Name z pz, .Name u pu] [a, b, d] c.sc = some (some [y, z, u])))))))))
    | _ => false
  | .fld o _ f v, x => match x with
    | .Assign [.Attribute y g _] z _ => decide (f = g) && (o.mt c y && (v.mt c z))
    | _ => false
  | .parI n o i v, x => match x with
    | .Assign [.Tuple [.Name y py, .Subscript a z pz] _ _] (.Tuple vs k2 p2) _ => tgB c n y && (o.mt c a && (i.mt c z && (v.mt c (.Tuple vs k2 p2) && (notSlice z && decide (spB [.Name y py, .Subscript a z pz] vs c.sc = some none)))))
    | _ => false
  | .parK _ n o i v, x => match x with
    | .Assign [.Tuple [.Subscript a z pz, .Name y py] _ _] (.Tuple vs k2 p2) _ => tgB c n y && (o.mt c a && (i.mt c z && (v.mt c (.Tuple vs k2 p2) && (notSlice z && decide (spB [.Subscript a z pz, .Name y py] vs c.sc = some none)))))
    | _ => false
  | .setI o i v, x => match x with
    | .Assign [.Subscript y z _] u _ => o.mt c y && (i.mt c z && (v.mt c u && notSlice z))
    | _ => false
  | .setK _ o i v, x => match x with
    | .Assign [.Subscript y z _] u _ => o.mt c y && (i.mt c z && (v.mt c u && notSlice z))
    | _ => false
  | .ife t a b, x => match x with
    | .If y p q _ => t.mt c y && (a.mt c p && b.mt c q)
    | _ => false
  | .for_ g w b, x => match x with
    | .For tg iter body [] _ => g.mt c tg && (w.mt c tg iter && (b.mt c body && notSet iter))
    | _ => false
  | .while_ t b, x => match x with
    | .While y body [] _ => t.mt c y && b.mt c body
    | _ => false
  | .never, _ => true
  | .pass, x => match x with
    | .Pass _ => true
    | _ => false
def Ss.mt (c : Sc) : Ss → List Stmt → Bool
  | .nil, xs => match xs with
    | [] => true
    | _ => false
  | .cons s r, xs => match xs with
    | x :: xs => s.mt c x && r.mt c xs
    | [] => false
end
mutual
def S.ok (k : Co) : S → Prop
  | .ret e => e.ok k
  | .expr e => e.ok k
  | .asg _ e => e.ok k
  | .setLc _ _ _ w t elt => w.ok k ∧ t.ok k ∧ elt.ok k
  | .setLc2 _ _ _ w t _ w1 t1 elt => w.ok k ∧ t.ok k ∧ w1.ok k ∧ t1.ok k ∧ elt.ok k
  | .par _ _ es => es.ok k
  | .par3 _ _ _ es => es.ok k
  | .fld o C f v => Cf k.K C f ∧ o.ok k ∧ v.ok k
  | .setI o i v => o.ok k ∧ i.ok k ∧ v.ok k
  | .parI _ o i v => o.ok k ∧ i.ok k ∧ v.ok k
  | .parK kd _ o i v => (match kd with | .k => True | .t P w => P = k.prog ∧ w = k.w) ∧ o.ok k ∧ i.ok k ∧ v.ok k
  | .setK kd o i v => (match kd with | .k => True | .t P w => P = k.prog ∧ w = k.w) ∧ o.ok k ∧ i.ok k ∧ v.ok k
  | .ife t a b => t.ok k ∧ a.ok k ∧ b.ok k
  | .for_ _ w b => w.ok k ∧ b.ok k
  | .while_ t b => t.ok k ∧ b.ok k
  | _ => True
def Ss.ok (k : Co) : Ss → Prop
  | .nil => True
  | .cons s r => s.ok k ∧ r.ok k
end
theorem swap_attr {c : Sc} {X : Cx} {v o : Expr} {f : Str} {p : Pos} {l : Nat} : swapsWith v (some (.Attribute o f p)) l X.env = pure false := by cases v <;> rfl
theorem swap_sub {c : Sc} {X : Cx} {v o i : Expr} {p : Pos} {l : Nat} : swapsWithSole [.Subscript o i p] v l X.env = pure false := by cases v <;> rfl
theorem sp_sub {X : Cx} {v o i : Expr} {p : Pos} : swappedStores [.Subscript o i p] v X.env = pure none := by cases v <;> rfl
theorem asg_one {tg : Expr} (h : notStar tg = true) (env : Env) : (assignEach [tg] env).map (·.2) = [assign tg env] := by cases tg <;> first | rfl | cases h
mutual
theorem S.snd : ∀ (s : S) {c : Sc} {X : Cx} (x : Stmt), Gd c X → PassesOwn (model X.prog X.w) X.A X.env X.xe → s.ok (co X) → s.mt c x = true → PS X x (tDS X.K s.wp)
  | .ret e, c, X, x, g, hp, ok, h => by
    unfold S.mt at h
    split at h
    · unfold S.ok at ok; unfold S.wp; exact psd_ret (e.snd _ g ok h)
    · cases h
  | .expr e, c, X, x, g, hp, ok, h => by
    unfold S.mt at h
    split at h
    · obtain ⟨h1, h2⟩ := band h
      unfold S.ok at ok; unfold S.wp; exact psd_expr (e.snd _ g ok h1) (swaps_plain (bnot h2) _ _ _)
    · cases h
  | .asg gt e, c, X, x, g, hp, ok, h => by
    unfold S.mt at h
    split at h
    · obtain ⟨h1, h2⟩ := band h
      obtain ⟨h2, h3⟩ := band h2
      obtain ⟨h3, h4⟩ := band h3
      obtain ⟨h4, h5⟩ := band h4
      unfold S.ok at ok; unfold S.wp
      exact psd_asg (e.snd _ g ok h2) (gt.snd g _ h1) (swOk_ok g h4 _) (spOk_ok g h5) (asg_one h3 _)
    · cases h
  | .setLc i own gt w t elt, c, X, x, g, hp, ok, h => by
    unfold S.mt at h
    split at h
    · obtain ⟨a1, h⟩ := band h
      obtain ⟨a2, h⟩ := band h
      obtain ⟨a3, h⟩ := band h
      obtain ⟨h1, h2⟩ := band h
      obtain ⟨h2, h3⟩ := band h2
      obtain ⟨h3, h4⟩ := band h3
      obtain ⟨h4, h5⟩ := band h4
      obtain ⟨h5, h6⟩ := band h5
      obtain ⟨h6, h7⟩ := band h6
      obtain ⟨h7, h8⟩ := band h7
      obtain rfl := of_decide_eq_true h1
      unfold S.ok at ok; unfold S.wp
      refine psd_setLc g.calm g.nd (by rw [g.n]; exact of_decide_eq_true a1) (by rw [g.sc]; exact of_decide_eq_true a2) (sw_lc g a3) (Wk.snd w _ _ g ok.1 h4) (blkOk_by (by rw [g.n, g.sc]; exact h2)) (fun s H C cl fp => Tg.snd (g.blk) gt _ h5) (fun s H C cl fp => Oe.sndI t _ (g.blk (s := s) (H := H) (cl := cl) (C := C) (fp := fp)) ok.2.1 h6) (fun s H C cl fp => E.snd elt _ (g.blk (s := s) (H := H) (cl := cl) (C := C) (fp := fp)) ok.2.2 h7) (fun v => set_plain h3 _ v) ?_
      intro j hj
      have := List.all_eq_true.mp h8 j hj
      simpa using this
    · cases h
  | .setLc2 i own gt w t gt1 w1 t1 elt, c, X, x, g, hp, ok, h => by
    unfold S.mt at h
    split at h
    · obtain ⟨a1, h⟩ := band h
      obtain ⟨a2, h⟩ := band h
      obtain ⟨a3, h⟩ := band h
      obtain ⟨h1, h⟩ := band h
      obtain ⟨h1b, h⟩ := band h
      obtain ⟨h2, h⟩ := band h
      obtain ⟨h3, h⟩ := band h
      obtain ⟨h3b, h⟩ := band h
      obtain ⟨h4, h⟩ := band h
      obtain ⟨h5, h⟩ := band h
      obtain ⟨h6, h⟩ := band h
      obtain ⟨h7, h⟩ := band h
      obtain ⟨h8, h⟩ := band h
      obtain ⟨h9, h⟩ := band h
      obtain ⟨h10, h⟩ := band h
      obtain ⟨h11, h12⟩ := band h
      obtain rfl := of_decide_eq_true h1
      obtain rfl := of_decide_eq_true h1b
      unfold S.ok at ok; unfold S.wp
      have c1 : ∀ j ∈ gt.slots, j ∈ own.map (·.2) := fun j hj => by
        have := List.all_eq_true.mp h11 j hj
        simpa using this
      have c2 : ∀ j ∈ gt1.slots, j ∈ own.map (·.2) := fun j hj => by
        have := List.all_eq_true.mp h12 j hj
        simpa using this
      exact psd_setLc2 g.calm g.nd (by rw [g.n]; exact of_decide_eq_true a1) (by rw [g.sc]; exact of_decide_eq_true a2) (sw_lc g a3) (Wk.snd w _ _ g ok.1 h4) (blkOk_by (by rw [g.n, g.sc]; exact h2)) c2 (fun s H C cl fp => Tg.snd (g.blk) gt _ h5) (fun s H C cl fp => Oe.sndI t _ (g.blk (s := s) (H := H) (cl := cl) (C := C) (fp := fp)) ok.2.1 h6)
        (fun s H C cl fp => Wk.snd w1 _ _ (g.blk (s := s) (H := H) (cl := cl) (C := C) (fp := fp)) ok.2.2.1 h7) (fun s H C cl fp => Tg.snd (g.blk) gt1 _ h8) (fun s H C cl fp => Oe.sndI t1 _ (g.blk (s := s) (H := H) (cl := cl) (C := C) (fp := fp)) ok.2.2.2.1 h9)
        (fun s H C cl fp => E.snd elt _ (g.blk (s := s) (H := H) (cl := cl) (C := C) (fp := fp)) ok.2.2.2.2 h10) (fun v => set_plain h3 _ v) (fun env v => set_plain h3b _ v) c1 (fun j hj => hj)
    · cases h
  | .par i j es, c, X, x, g, hp, ok, h => by
    unfold S.mt at h
    split at h
    · obtain ⟨h1, h2⟩ := band h
      obtain ⟨h2, h3⟩ := band h2
      obtain ⟨h3, h4⟩ := band h3
      obtain ⟨h4, h5⟩ := band h4
      obtain ⟨h5, h6⟩ := band h5
      obtain ⟨h6, h7⟩ := band h6
      unfold S.ok at ok; unfold S.wp
      exact psd_par (fun t ht => ps_par g.calm g.nd (by rw [g.n]; exact of_decide_eq_true h1) (by rw [g.n]; exact of_decide_eq_true h2) (of_decide_eq_true h3) (by rw [g.sc]; exact of_decide_eq_true h4) (by rw [g.sc]; exact of_decide_eq_true h5) ht (sp_ok (by rw [g.sc]; exact of_decide_eq_true h7))) (pdn_a (es.snd _ g ok h6).1)
    · cases h
  | .par3 i j l es, c, X, x, g, hp, ok, h => by
    unfold S.mt at h
    split at h
    · obtain ⟨h1, h2⟩ := band h
      obtain ⟨h2, h3⟩ := band h2
      obtain ⟨h3, h4⟩ := band h3
      obtain ⟨h4, h5⟩ := band h4
      obtain ⟨h5, h6⟩ := band h5
      obtain ⟨h6, h7⟩ := band h6
      obtain ⟨h7, h8⟩ := band h7
      obtain ⟨h8, h9⟩ := band h8
      have hd := of_decide_eq_true h4
      unfold S.ok at ok; unfold S.wp
      exact psd_par3 (fun t ht => ps_par3 g.calm g.nd (by rw [g.n]; exact of_decide_eq_true h1) (by rw [g.n]; exact of_decide_eq_true h2) (by rw [g.n]; exact of_decide_eq_true h3) hd.1 hd.2.1 hd.2.2 (by rw [g.sc]; exact of_decide_eq_true h5) (by rw [g.sc]; exact of_decide_eq_true h6) (by rw [g.sc]; exact of_decide_eq_true h7) ht (sp_ok (by rw [g.sc]; exact of_decide_eq_true h9))) (pdn_a (es.snd _ g ok h8).1)
    · cases h
  | .fld o C f v, c, X, x, g, hp, ok, h => by
    unfold S.mt at h
    split at h
    · obtain ⟨h1, h2⟩ := band h
      obtain ⟨h2, h3⟩ := band h2
      obtain rfl := of_decide_eq_true h1
      unfold S.ok at ok; unfold S.wp
      exact psd_fld ok.1 (o.snd _ g ok.2.1 h2) (v.snd _ g ok.2.2 h3) (swap_attr (c := c))
    · cases h
  | .parI n o i v, c, X, x, g, hp, ok, h => by
    unfold S.mt at h
    split at h
    · obtain ⟨h1, h2⟩ := band h
      obtain ⟨h2, h3⟩ := band h2
      obtain ⟨h3, h4⟩ := band h3
      obtain ⟨h4, h5⟩ := band h4
      obtain ⟨h5, h6⟩ := band h5
      unfold S.ok at ok; unfold S.wp
      exact psd_parI g.calm (g.name h1) (o.snd _ g ok.1 h2) (i.snd _ g ok.2.1 h3) (v.snd _ g ok.2.2 h4) h5 rfl (sp_ok (by rw [g.sc]; exact of_decide_eq_true h6))
    · cases h
  | .parK kd n o i v, c, X, x, g, hp, ok, h => by
    unfold S.mt at h
    split at h
    · obtain ⟨h1, h2⟩ := band h
      obtain ⟨h2, h3⟩ := band h2
      obtain ⟨h3, h4⟩ := band h3
      obtain ⟨h4, h5⟩ := band h4
      obtain ⟨h5, h6⟩ := band h5
      unfold S.ok at ok; unfold S.wp
      exact psd_parK kd (by cases kd <;> exact ok.1) g.ru g.calm (g.name h1) (o.snd _ g ok.2.1 h2) (i.snd _ g ok.2.2.1 h3) (v.snd _ g ok.2.2.2 h4) h5 rfl (sp_ok (by rw [g.sc]; exact of_decide_eq_true h6))
    · cases h
  | .setI o i v, c, X, x, g, hp, ok, h => by
    unfold S.mt at h
    split at h
    · obtain ⟨h1, h2⟩ := band h
      obtain ⟨h2, h3⟩ := band h2
      obtain ⟨h3, h4⟩ := band h3
      unfold S.ok at ok; unfold S.wp
      exact psd_setI (o.snd _ g ok.1 h1) (i.snd _ g ok.2.1 h2) (v.snd _ g ok.2.2 h3) (swap_sub (c := c)) sp_sub h4
    · cases h
  | .setK kd o i v, c, X, x, g, hp, ok, h => by
    unfold S.mt at h
    split at h
    · obtain ⟨h1, h2⟩ := band h
      obtain ⟨h2, h3⟩ := band h2
      obtain ⟨h3, h4⟩ := band h3
      unfold S.ok at ok; unfold S.wp
      exact psd_setK kd (by cases kd <;> exact ok.1) g.ru (o.snd _ g ok.2.1 h1) (i.snd _ g ok.2.2.1 h2) (v.snd _ g ok.2.2.2 h3) (swap_sub (c := c)) sp_sub h4
    · cases h
  | .ife t a b, c, X, x, g, hp, ok, h => by
    unfold S.mt at h
    split at h
    · obtain ⟨h1, h2⟩ := band h
      obtain ⟨h2, h3⟩ := band h2
      unfold S.ok at ok; unfold S.wp
      exact psd_if (t.sndT _ g ok.1 h1) (Ss.snd a _ g hp ok.2.1 h2) (Ss.snd b _ g hp ok.2.2 h3)
    · cases h
  | .for_ gt w b, c, X, x, g, hp, ok, h => by
    unfold S.mt at h
    split at h
    · obtain ⟨h1, h2⟩ := band h
      obtain ⟨h2, h3⟩ := band h2
      obtain ⟨h3, h4⟩ := band h3
      unfold S.ok at ok; unfold S.wp
      exact psd_for hp g.calm (w.snd _ _ g ok.1 h2) (gt.snd g _ h1) (Ss.snd b _ g hp ok.2 h3) (fun v => set_plain h4 _ v)
    · cases h
  | .while_ t b, c, X, x, g, hp, ok, h => by
    unfold S.mt at h
    split at h
    · obtain ⟨h1, h2⟩ := band h
      unfold S.ok at ok; unfold S.wp
      exact psd_while hp (t.sndT _ g ok.1 h1) (Ss.snd b _ g hp ok.2 h2)
    · cases h
  | .never, c, X, x, g, hp, ok, h => by unfold S.wp; exact psd_never
  | .pass, c, X, x, g, hp, ok, h => by
    unfold S.mt at h
    split at h
    · unfold S.wp; exact psd_pass
    · cases h
theorem Ss.snd : ∀ (s : Ss) {c : Sc} {X : Cx} (x : List Stmt), Gd c X → PassesOwn (model X.prog X.w) X.A X.env X.xe → s.ok (co X) → s.mt c x = true → PSs X x (tDS X.K s.wp)
  | .nil, c, X, x, g, hp, ok, h => by
    unfold Ss.mt at h
    split at h
    · unfold Ss.wp; exact psd_nil
    · cases h
  | .cons s r, c, X, x, g, hp, ok, h => by
    unfold Ss.mt at h
    split at h
    · obtain ⟨h1, h2⟩ := band h
      unfold Ss.ok at ok; unfold Ss.wp
      exact psd_cons (S.snd s _ g hp ok.1 h1) (Ss.snd r _ g hp ok.2 h2)
    · cases h
end
def startD (N : List Str) (ds : List D) : Ro := ds.map some ++ List.replicate (N.length - ds.length) none
theorem start_rep {K : PySem.W.Frag} {H : Hp} {N : List Str} {ds : List D} {vs : List V} (r : Reps K H ds vs) : RepS K H (L2.start N vs) (startD N ds) := by
  have el := r.length
  refine ⟨by unfold L2.start startD; simp [el], fun i d h => ?_⟩
  unfold startD at h
  by_cases hi : i < ds.length
  · rw [List.getElem?_append_left (by simpa using hi), List.getElem?_map] at h
    cases e : ds[i]? with
    | none => rw [e] at h; cases h
    | some d' =>
      rw [e] at h
      obtain rfl : d' = d := by simpa using h
      obtain ⟨v, e1, e2⟩ := r.get e
      refine ⟨v, ?_, e2⟩
      unfold L2.start
      rw [List.getElem?_append_left (by rw [List.length_map, ← el]; exact hi), List.getElem?_map, e1]
      rfl
  · rw [List.getElem?_append_right (by simpa using hi), List.getElem?_replicate] at h
    split at h <;> cases h
def bodyEnds (Q : DQ) : DEnds := ⟨fun _ M => Q .non M, Q, fun _ _ => False, fun _ _ => False⟩
end DL
namespace DL
open PySem L2
structure Cs where
  House : Addr
  Net : Addr
  Striking : Addr
  Growing : Addr
  Yard : Addr
  Desk : Addr
  ex : Str → Addr
  tb : Str → Addr
  P : Program
  w : World
def kindO : Option MO → Option String
  | some (.lst _) => some "list"
  | some (.dK _) => some "dict"
  | some (.dT _) => some "dict"
  | some .pot => some "list"
  | some (.scr _) => some "list"
  | _ => none
def kind (d : D) (M : Mp) : Option String := match d with
  | .non => some "NoneType"
  | .bl _ => some "bool"
  | .int _ => some "int"
  | .str _ => some "str"
  | .tup _ => some "tuple"
  | .ref a => kindO (M a)
  | .ty _ => none
def isaB (_ : Cs) (T : String) (d : D) (M : Mp) : Option Bool := (kind d M).map fun k => k == T || (k == "bool" && T == "int")
theorem kind_ty {K : PySem.W.Frag} {H : Hp} {M : Mp} {d : D} {v : V} {k : String} (m : RepM K H M) (r : Rep K H d v) (h : kind d M = some k) : TyX K H v (.type k) := by
  cases d with
  | non => cases r; cases h; exact .base .non
  | bl b => cases r; cases h; exact .base (.bl b)
  | int i => cases r; cases h; exact .base (.int i)
  | str x => cases r; cases h; exact .base (.str x)
  | ty n => cases h
  | tup ds =>
    cases h
    unfold Rep at r
    obtain ⟨a, vs, rfl, s, _⟩ := r
    rcases s with (s | ⟨o, s⟩) | ⟨o, its, n, s, c, _⟩
    · exact .base (.tup s)
    · exact .fTuple s
    · exact .kTuple s c
  | ref a =>
    cases r
    have h : kindO (M a) = some k := h
    cases e : M a with
    | none => rw [e] at h; cases h
    | some o =>
      rw [e] at h
      have q := m a o e
      cases o with
      | lst ds => obtain ⟨vs, q1, _⟩ := q; cases h; exact .base (.lst q1)
      | dK ds => obtain ⟨vs, q1, _⟩ := q; cases h; exact .base (.dK q1)
      | dT ds => obtain ⟨vs, q1, _⟩ := q; cases h; exact .base (.dT q1)
      | dX P w fs => cases h
      | ins C fs => cases h
      | pot => obtain ⟨g, n, q1, _⟩ := q; cases h; exact .base (.lst q1)
      | scr ns => obtain ⟨o, q1⟩ := q; cases h; exact .base (.frz q1)
      | tx ds => cases h
      | exo C d => cases h
      | exd fs => cases h
      | tab q => cases h
      | cod q => cases h
theorem kind_mem {d : D} {M : Mp} {k : String} (h : kind d M = some k) : k ∈ kindNames := by
  unfold kind at h
  split at h
  · cases h; decide
  · cases h; decide
  · cases h; decide
  · cases h; decide
  · cases h; decide
  · unfold kindO at h; split at h <;> first | (cases h; decide) | cases h
  · cases h
theorem kits : ∀ k ∈ kindNames, ∀ t ∈ tyNames, kitB k t = some (k == t || (k == "bool" && t == "int")) := by decide +kernel
theorem isaB_ok {k : Co} {c : Cs} {T : String} (hi : k.mg "isinstance" = none) (ht : k.mg (Str.ofString T) = none) (hT : T ∈ tyNames) : Isa k (.bty T) (isaB c T) := by
  refine ⟨hi, ht, fun H M d v b m r h => ?_⟩
  unfold isaB at h
  cases e : kind d M with
  | none => rw [e] at h; cases h
  | some q =>
    rw [e] at h
    have h' : (q == T || (q == "bool" && T == "int")) = b := Option.some.inj h
    exact ⟨.type q, .x (kind_ty m r e), kit_ty (by rw [← h']; exact kits q (kind_mem e) T hT)⟩
structure ClsF (K : PySem.W.Frag) (C : Addr) : Prop where
  cl : Cls K C
  ha : PySem.W.findIn K (.ref C) "__class__" = some (some (.builtin "object.__class__"))
  hn : PySem.W.specialIn K (.builtin "object.__class__") "__get__" = some (some (.builtin "getset_descriptor.__get__"))
  htk : PySem.W.takesIn K (.builtin "object.__class__") = some true
  hm : PySem.W.mroIn K C (.type "object") = some true
  ko : ∀ k ∈ kindNames, PySem.W.kitOne K (.type k) (.ref C) = some false
structure UnC (K : PySem.W.Frag) (C O : Addr) : Prop where
  kit : PySem.W.kitOne K (.ref O) (.ref C) = some false
  nfO : PySem.W.notFirst K C (.ref O) = true
  nfk : ∀ k ∈ kindNames, PySem.W.notFirst K C (.type k) = true
theorem UnC.ne {K : PySem.W.Frag} {C O : Addr} (h : UnC K C O) : O ≠ C := fun e => by
  subst e
  have := h.kit
  unfold PySem.W.kitOne at this
  rw [if_pos (by simp)] at this
  cases this
def excOf (d : D) (M : Mp) : Option Addr := match d with
  | .ref a => (match M a with
    | some (.exo C none) => some C
    | some (.exo C (some dd)) => (match M dd with
      | some (.exd _) => some C
      | _ => none)
    | _ => none)
  | _ => none
theorem excOf_eq {d : D} {M : Mp} {C : Addr} (h : excOf d M = some C) : ∃ a dd, d = .ref a ∧ M a = some (.exo C dd) ∧ ∀ p, dd = some p → ∃ fs, M p = some (.exd fs) := by
  unfold excOf at h
  split at h
  · split at h
    · rename_i e
      cases h
      exact ⟨_, _, rfl, e, fun p z => by cases z⟩
    · rename_i e
      split at h
      · rename_i fs e2
        cases h
        exact ⟨_, _, rfl, e, fun p z => by cases z; exact ⟨_, e2⟩⟩
      · cases h
    · cases h
  · cases h
def isaE (ys ns : List Addr) (d : D) (M : Mp) : Option Bool := match excOf d M with
  | some C => if C ∈ ys then some true else if C ∈ ns then some false else none
  | none => (kind d M).map fun _ => false
structure ExS (K : PySem.W.Frag) (tv : Value) (ys ns : List Addr) : Prop where
  ys : ∀ C ∈ ys, ExcC K C ∧ PySem.W.kitOne K (.ref C) tv = some true
  ns : ∀ C ∈ ns, ExcC K C ∧ PySem.W.kitOne K (.ref C) tv = some false
  ks : ∀ k ∈ kindNames, PySem.W.kitOne K (.type k) tv = some false
theorem isaE_run {K : PySem.W.Frag} {tv : Value} {ys ns : List Addr} (S : ExS K tv ys ns) : ∀ H M d v b, RepM K H M → Rep K H d v → isaE ys ns d M = some b → ∃ t, TyY K H v t ∧ PySem.W.kitOne K t tv = some b := fun H M d v b m r h => by
  unfold isaE at h
  cases e : excOf d M with
  | none =>
    rw [e] at h
    cases e2 : kind d M with
    | none => rw [e2] at h; cases h
    | some q =>
      rw [e2] at h
      rw [show b = false from (Option.some.inj h).symm]
      exact ⟨.type q, .x (kind_ty m r e2), S.ks q (kind_mem e2)⟩
  | some C =>
    rw [e] at h
    obtain ⟨a, dd, rfl, e1, hd⟩ := excOf_eq e
    cases r
    have e3 : H a = some (exH a C dd) := m a _ e1
    have hd' : ∀ p, dd = some p → ∃ fs, H p = some (.xd fs) := fun p hp => by
      obtain ⟨fs, e4⟩ := hd p hp
      obtain ⟨vs, e5, _⟩ := m p _ e4
      exact ⟨vs, e5⟩
    have h2 : (if C ∈ ys then some true else if C ∈ ns then some false else none) = some b := h
    by_cases h3 : C ∈ ys
    · rw [if_pos h3] at h2
      cases h2
      exact ⟨_, .exc e3 hd' (S.ys C h3).1, (S.ys C h3).2⟩
    · rw [if_neg h3] at h2
      by_cases h4 : C ∈ ns
      · rw [if_pos h4] at h2
        cases h2
        exact ⟨_, .exc e3 hd' (S.ns C h4).1, (S.ns C h4).2⟩
      · rw [if_neg h4] at h2; cases h2
theorem isaE_own {k : Co} {x : Str} {C : Addr} {ys ns : List Addr} (hi : k.mg "isinstance" = none) (hx : k.mg x = some (.ref C)) (S : ExS k.K (.ref C) ys ns) : Isa k (.own x C) (isaE ys ns) := ⟨hi, hx, isaE_run S⟩
theorem isaE_bty {k : Co} {T : String} {ys ns : List Addr} (hi : k.mg "isinstance" = none) (hx : k.mg (Str.ofString T) = none) (S : ExS k.K (.type T) ys ns) : Isa k (.bty T) (isaE ys ns) := ⟨hi, hx, isaE_run S⟩
end DL
namespace DL
open PySem L2
def Keep (M M' : Mp) : Prop := ∀ a o, M a = some o → M' a = some o
theorem Keep.refl (M : Mp) : Keep M M := fun _ _ h => h
theorem Keep.trans {M M1 M2 : Mp} (a : Keep M M1) (b : Keep M1 M2) : Keep M M2 := fun x o h => b x o (a x o h)
theorem Keep.new {M : Mp} {p : Addr} {o : MO} (h : M p = none) : Keep M (up M p o) := fun a u e => by
  rw [up_ne]; exact e
  intro z; rw [z, h] at e; cases e
theorem Keep.put {M M1 : Mp} {p : Addr} {o : MO} (k : Keep M M1) (h : M p = none) : Keep M (up M1 p o) := fun a u e => by
  rw [up_ne]; exact k a u e
  intro z; rw [z, h] at e; cases e
theorem Keep.none {M M1 : Mp} {p : Addr} (k : Keep M M1) (h : M1 p = Option.none) : M p = Option.none := by
  cases e : M p with
  | none => rfl
  | some o => rw [k p o e] at h; cases h
def kn (d : D) (M : Mp) : Prop := ∃ k, kind d M = some k
theorem kind_keep {d : D} {M M' : Mp} {k : String} (h : kind d M = some k) (q : Keep M M') : kind d M' = some k := by
  cases d <;> (try exact h)
  rename_i a
  have h : kindO (M a) = some k := h
  show kindO (M' a) = some k
  cases e : M a with
  | none => rw [e] at h; cases h
  | some o => rw [q a o e, ← e]; exact h
theorem kn.keep {d : D} {M M' : Mp} (h : kn d M) (q : Keep M M') : kn d M' := let ⟨k, e⟩ := h; ⟨k, kind_keep e q⟩
@[simp] theorem kn_int {i : Int} {M : Mp} : kn (.int i) M := ⟨_, rfl⟩
@[simp] theorem kn_tup {ds : List D} {M : Mp} : kn (.tup ds) M := ⟨_, rfl⟩
@[simp] theorem kn_str {x : Str} {M : Mp} : kn (.str x) M := ⟨_, rfl⟩
theorem asn_name {i : Nat} {d : D} {ρ : Ro} : (Tg.name i).asn d ρ = some (ρ.set i (some d)) := by unfold Tg.asn; rfl
theorem asn_tup {ts : Tgs} {ds : List D} {ρ : Ro} : (Tg.tup ts).asn (.tup ds) ρ = ts.asn ds ρ := by unfold Tg.asn; rfl
theorem asns_nil {ρ : Ro} : Tgs.nil.asn [] ρ = some ρ := by unfold Tgs.asn; rfl
theorem asns_name {i : Nat} {ts : Tgs} {d : D} {ds : List D} {ρ : Ro} : (Tgs.cons (.name i) ts).asn (d :: ds) ρ = ts.asn ds (ρ.set i (some d)) := by
  show (match (Tg.name i).asn d ρ with | some ρ' => ts.asn ds ρ' | none => none) = _
  rw [asn_name]
theorem lcGo_inv {T : DIt} {g : Tg} {wt : WT} {we : WE} {ρ : Ro} {fin : List D → Mp → Prop} (J : List D → List D → Mp → Prop) (keep : ∀ done acc M, J done acc M → T.keep M) : ∀ (todo done acc : List D) (M : Mp), J done acc M →
    (∀ x ∈ todo, ∀ done acc M (k : List D → Mp → Prop), J done acc M → (∀ acc' M', J (done ++ [x]) acc' M' → k acc' M') → ∃ ρ1, g.asn x ρ = some ρ1 ∧ wt ρ1 M fun b M1 => if b = true then we ρ1 M1 fun d M2 => k (acc ++ [d]) M2 else k acc M1) →
    (∀ acc M, J (done ++ todo) acc M → fin acc M) → lcGo T g wt we ρ fin todo acc M
  | [], done, acc, M, h, _, hf => by
    unfold lcGo
    exact ⟨keep _ _ _ h, hf acc M (by rw [List.append_nil]; exact h)⟩
  | x :: xs, done, acc, M, h, hs, hf => by
    unfold lcGo
    refine ⟨keep _ _ _ h, hs x List.mem_cons_self done acc M (fun acc' M' => lcGo T g wt we ρ fin xs acc' M') h fun acc' M' h' => ?_⟩
    exact lcGo_inv J keep xs (done ++ [x]) acc' M' h' (fun y hy => hs y (List.mem_cons_of_mem _ hy)) fun acc M h => hf acc M (by rw [List.append_assoc] at h; exact h)
theorem forGo_inv {T : DIt} {g : Tg} {wb : WS} {D0 : DEnds} (J : List D → Ro → Mp → Prop) (keep : ∀ done ρ M, J done ρ M → T.keep M) : ∀ (todo done : List D) (ρ : Ro) (M : Mp), J done ρ M →
    (∀ x ∈ todo, ∀ done ρ M (k : Ro → Mp → Prop), J done ρ M → (∀ ρ' M', J (done ++ [x]) ρ' M' → k ρ' M') → ∃ ρ1, g.asn x ρ = some ρ1 ∧ wb { D0 with nx := k, ct := k, bk := D0.nx } ρ1 M) →
    (∀ ρ M, J (done ++ todo) ρ M → D0.nx ρ M) → forGo T g wb D0 todo ρ M
  | [], done, ρ, M, h, _, hf => by
    unfold forGo
    exact ⟨keep _ _ _ h, hf ρ M (by rw [List.append_nil]; exact h)⟩
  | x :: xs, done, ρ, M, h, hs, hf => by
    unfold forGo
    refine ⟨keep _ _ _ h, hs x List.mem_cons_self done ρ M (forGo T g wb D0 xs) h fun ρ' M' h' => ?_⟩
    exact forGo_inv J keep xs (done ++ [x]) ρ' M' h' (fun y hy => hs y (List.mem_cons_of_mem _ hy)) fun ρ M h => hf ρ M (by rw [List.append_assoc] at h; exact h)
theorem lcGo_map {T : DIt} {g : Tg} {wt : WT} {we : WE} {ρ : Ro} {fin : List D → Mp → Prop} {M0 : Mp} (f : D → Option D) (keep : ∀ M, Keep M0 M → T.keep M) (todo : List D) (M : Mp) (hM : Keep M0 M)
    (hs : ∀ x ∈ todo, ∀ acc M (k : List D → Mp → Prop), Keep M0 M → (∀ M', Keep M0 M' → k (acc ++ (f x).toList) M') → ∃ ρ1, g.asn x ρ = some ρ1 ∧ wt ρ1 M fun b M1 => if b = true then we ρ1 M1 fun d M2 => k (acc ++ [d]) M2 else k acc M1)
    (hf : ∀ M, Keep M0 M → fin (todo.filterMap f) M) : lcGo T g wt we ρ fin todo [] M := by
  refine lcGo_inv (fun done acc M => acc = done.filterMap f ∧ Keep M0 M) (fun _ _ M h => keep M h.2) todo [] [] M ⟨rfl, hM⟩ (fun x hx done acc M k h hk => ?_) (fun acc M h => by rw [h.1]; exact hf M h.2)
  refine hs x hx acc M k h.2 fun M' hM' => hk _ M' ⟨?_, hM'⟩
  rw [h.1, List.filterMap_append]
  cases e : f x <;> simp [e]
theorem tru_bl {b k : Bool} {M : Mp} : truD (.bl b) M k = (k = b) := rfl
theorem tru_non {k : Bool} {M : Mp} : truD .non M k = (k = false) := rfl
theorem tru_int {i : Int} {k : Bool} {M : Mp} : truD (.int i) M k = (k = (i != 0)) := rfl
theorem tru_tup {ds : List D} {k : Bool} {M : Mp} : truD (.tup ds) M k = (k = !ds.isEmpty) := rfl
theorem ord_int {o : Ord} {i j : Int} {M : Mp} {Q : DQ} (h : Q (.bl (match o with | .lt => decide (i < j) | .le => decide (i ≤ j) | .gt => decide (j < i) | .ge => decide (j ≤ i))) M) : ordD o (.int i) (.int j) M Q := .inl ⟨i, j, rfl, rfl, h⟩
theorem eq_plain {neg : Bool} {x y : D} {M : Mp} {Q : DQ} (hx : plain x = true) (hy : plain y = true) (sx : SeqAt.shaped (py x) = true) (sy : SeqAt.shaped (py y) = true) (h : Q (.bl (if neg then !PyData.eqv (py x) (py y) else PyData.eqv (py x) (py y))) M) : eqD neg x y M Q :=
  .inl ⟨py x, py y, .plain hx, .plain hy, sx, sy, h⟩
theorem eqv_int (i j : Int) : PyData.eqv (.int i) (.int j) = decide (i = j) := by
  simp only [PyData.eqv]
  by_cases h : i = j
  · simp [h]
  · simp [h]
theorem eq_int {neg : Bool} {i j : Int} {M : Mp} {Q : DQ} (h : Q (.bl (if neg then !decide (i = j) else decide (i = j))) M) : eqD neg (.int i) (.int j) M Q :=
  eq_plain rfl rfl rfl rfl (by simp only [py, eqv_int]; exact h)
theorem all_new {p : Addr} {bs : List Bool} {M : Mp} {Q : DQ} (h : Q (.bl (bs.all id)) (up M p (.lst (bs.map D.bl)))) : allS [.ref p] (up M p (.lst (bs.map D.bl))) Q := ⟨p, bs, rfl, up_same, h⟩
theorem tuple_new {p : Addr} {xs : List D} {M : Mp} {Q : DQ} (h : Q (.tup xs) (up M p (.lst xs))) : tupleS [.ref p] (up M p (.lst xs)) Q := ⟨_, xs, rfl, .inr ⟨p, rfl, up_same⟩, h⟩
theorem yes_if {ρ : Ro} {M : Mp} {A : Mp → Prop} {B : Mp → Prop} (h : A M) : wYes ρ M fun b M1 => if b = true then A M1 else B M1 := by
  show (if true = true then A M else B M)
  rw [if_pos rfl]
  exact h
theorem all_go {T : DIt} {g : Tg} {we : WE} {ρ : Ro} {M : Mp} {Q : DQ} (f : D → Bool) (keep : ∀ M2, Keep M M2 → T.keep M2)
    (hs : ∀ x ∈ T.items, ∀ M2 (k : D → Mp → Prop), Keep M M2 → (∀ M3, Keep M M3 → k (.bl (f x)) M3) → ∃ ρ1, g.asn x ρ = some ρ1 ∧ we ρ1 M2 k) (hq : ∀ M2, Keep M M2 → Q (.bl (T.items.all f)) M2) :
    lcGo T g wYes we ρ (fun acc M2 => ∀ p, M2 p = none → allS [.ref p] (up M2 p (.lst acc)) Q) T.items [] M := by
  refine lcGo_map (M0 := M) (fun x => some (.bl (f x))) keep T.items M (.refl M) (fun x hx acc M2 k h2 hk => ?_) fun M2 h2 p hp => ?_
  · obtain ⟨ρ1, e, w⟩ := hs x hx M2 (fun d M3 => k (acc ++ [d]) M3) h2 fun M3 h3 => hk M3 h3
    exact ⟨ρ1, e, yes_if w⟩
  · have e : T.items.filterMap (fun x => some (D.bl (f x))) = (T.items.map f).map D.bl := by rw [List.filterMap_eq_map', List.map_map]; rfl
    rw [e]
    refine all_new ?_
    rw [List.all_map]
    exact hq _ (h2.trans (.new hp))
end DL
namespace DL
open PySem L2
mutual
def sz : D → Prop
  | .tup ds => ds.length ≤ sizeLine ∧ szs ds
  | _ => True
def szs : List D → Prop
  | [] => True
  | d :: ds => sz d ∧ szs ds
end
theorem szs_mem : ∀ {ds : List D} {d : D}, szs ds → d ∈ ds → sz d
  | [], _, _, h => by cases h
  | e :: ds, d, h, hm => by
    unfold szs at h
    rcases List.mem_cons.mp hm with rfl | hm
    · exact h.1
    · exact szs_mem h.2 hm
theorem sz_tup {ds : List D} (h : sz (.tup ds)) : ds.length ≤ sizeLine ∧ ∀ d ∈ ds, sz d := by
  unfold sz at h
  exact ⟨h.1, fun d hd => szs_mem h.2 hd⟩
def szM (M : Mp) : Prop := ∀ a ds, M a = some (.lst ds) → ds.length ≤ sizeLine ∧ ∀ d ∈ ds, sz d
structure Sz (K : PySem.W.Frag) (H : Hp) : Prop where
  t : ∀ a xs, SqT K H a xs → xs.length ≤ sizeLine
  l : ∀ a xs, SqL K H a xs → xs.length ≤ sizeLine
mutual
theorem Rep.sz {K : PySem.W.Frag} {H : Hp} (z : Sz K H) : ∀ {d : D} {v : V}, Rep K H d v → DL.sz d
  | .non, _, _ => by unfold DL.sz; trivial
  | .bl _, _, _ => by unfold DL.sz; trivial
  | .int _, _, _ => by unfold DL.sz; trivial
  | .str _, _, _ => by unfold DL.sz; trivial
  | .ty _, _, _ => by unfold DL.sz; trivial
  | .ref _, _, _ => by unfold DL.sz; trivial
  | .tup ds, _, h => by
    unfold Rep at h
    obtain ⟨a, vs, _, s, r⟩ := h
    unfold DL.sz
    exact ⟨by rw [r.length]; exact z.t _ _ s, Reps.sz z r⟩
theorem Reps.sz {K : PySem.W.Frag} {H : Hp} (z : Sz K H) : ∀ {ds : List D} {vs : List V}, Reps K H ds vs → DL.szs ds
  | [], _, _ => by unfold DL.szs; trivial
  | d :: ds, _, h => by
    unfold Reps at h
    obtain ⟨v, r, _, h1, h2⟩ := h
    unfold DL.szs
    exact ⟨Rep.sz z h1, Reps.sz z h2⟩
end
theorem RepM.sz {K : PySem.W.Frag} {H : Hp} {M : Mp} (z : Sz K H) (m : RepM K H M) : szM M := fun a ds e => by
  obtain ⟨vs, h1, r⟩ := m a _ e
  exact ⟨by rw [r.length]; exact z.l a vs (.of h1), fun d hd => szs_mem (Reps.sz z r) hd⟩
theorem pss_sz {X : Cx} {st : List Stmt} {t : TS} (h : PSs X st t) : PSs X st (fun D σ H => Sz X.K H → t D σ H) := ⟨fun pins s σ H D I q => h.run pins s σ H D I (q ⟨fun a xs e => let ⟨_, _, _, z⟩ := I.tuple e; z, fun a xs e => let ⟨_, _, _, z⟩ := I.list e; z⟩)⟩
theorem fn_okG {P : Program} {w : World} {K : PySem.W.Frag} {mg : Str → Option Value} {base : Heap} {x qual : Str} {params : Arguments} {body : List Stmt} {scope : Scope} {dvs : List V} {kws : List (Str × V)} {f : Addr} {fd : FuncData} {N ps : List Str} {k : Nat} {S : Spec} (F : FunD K x qual params body scope dvs kws f fd)
    (sc : FnScope N ps scope) (b : Ss) (hl : ∀ ds M Q, S ds M Q → ds.length = ps.length) (hm : b.mt ⟨N, scope, fun _ => true⟩ body = true) (hok : ∀ A, Room k A → b.ok ⟨P, w, K, mg, base, A⟩)
    (hwp : ∀ H ds M Fr Q, szs ds → szM M → RepM K H M → FrOk Fr H M → S ds M Q → ∃ M1 Q1, RepM K H M1 ∧ FrOk Fr H M1 ∧ b.wp (bodyEnds Q1) (startD N ds) M1 ∧ ∀ d M' H', Q1 d M' → RepM K H' M' → Frm Fr H H' M' → ∃ M2, RepM K H' M2 ∧ Frm Fr H H' M2 ∧ Q d M2) :
    FnOk P w K mg base CX0 (k + 1) f fd ps (spD K S) := by
  refine F.ok sc (fun vs H Q E h => rDL.len hl h) (fun cdv A outer s H vs Q E hr h => ?_)
  refine ⟨_, PSs.nox (pss_sz (b.snd (c := ⟨N, scope, fun _ => true⟩) _ ⟨rfl, sc.nd, rfl, rfl, rfl, ?_, deeper_cq⟩ PassesOwn.never (hok _ hr) hm)), fun z => ?_⟩
  · have := hr.un
    show (A.deeper _).units + 65 < cLine
    omega
  · obtain ⟨ds, M, Fr, Q0, r, m, fr, h, g⟩ := h
    obtain ⟨M1, Q1, m1, fr1, hb, back⟩ := hwp H ds M Fr Q0 (Reps.sz z r) (RepM.sz z m) m fr h
    refine ⟨startD N ds, M1, Fr, _, ⟨start_rep r, m1, fr1⟩, hb, ?_⟩
    have fin : ∀ d M' v H', Q1 d M' → TupS K H H' → Frm Fr H H' M' → RepM K H' M' → Rep K H' d v → Q v H' := fun d M' v H' q t f r p => by
      obtain ⟨M2, m2, f2, q2⟩ := back d M' H' q r f
      exact g d M2 v H' q2 t f2 m2 p
    exact ⟨fun ρ' M' σ' H' q t f s => fin .non M' .non H' q t f s.rm rfl, fin, fun _ _ _ _ q _ _ _ => q.elim, fun _ _ _ _ q _ _ _ => q.elim⟩
theorem fn_okP {P : Program} {w : World} {K : PySem.W.Frag} {mg : Str → Option Value} {base : Heap} {x qual : Str} {params : Arguments} {body : List Stmt} {scope : Scope} {dvs : List V} {kws : List (Str × V)} {f : Addr} {fd : FuncData} {N ps : List Str} {k : Nat} {S : Spec} (F : FunD K x qual params body scope dvs kws f fd)
    (sc : FnScope N ps scope) (b : Ss) (hl : ∀ ds M Q, S ds M Q → ds.length = ps.length) (hm : b.mt ⟨N, scope, fun _ => true⟩ body = true) (hok : ∀ A, Room k A → b.ok ⟨P, w, K, mg, base, A⟩)
    (hwp : ∀ ds M Q, szs ds → szM M → S ds M Q → b.wp (bodyEnds Q) (startD N ds) M) : FnOk P w K mg base CX0 (k + 1) f fd ps (spD K S) :=
  fn_okG F sc b hl hm hok fun H ds M Fr Q z zm m fr h => ⟨M, Q, m, fr, hwp ds M Q z zm h, fun d M' H' q r f => ⟨M', r, f, q⟩⟩
end DL
namespace DL
open PySem PySem.Spec PyProof.Rows L2
structure FnG (P : Program) (w : World) (K : PySem.W.Frag) (mg : Str → Option Value) (base : Heap) (k : Nat) (f : Addr) (fd : FuncData) (ps : List Str) (S : Spec) : Prop where
  len : ∀ ds M Q, S ds M Q → ds.length = ps.length
  run : ∀ (A : Around) (outer : List Env) (s : Shared) (H : Hp) (args : Args) (us : List Value) (vs : List V) (Q : VK) (E : XK), Room k A → A.guards = some [] → Env0 P w K mg base A outer s H → BindsTo s fd args (ps.zip us) → Vals vs us → rDL K S vs H Q →
    codeAny (model P w) A (.call (.ref f) args) (CR CX0 outer P w H s Q E) s
theorem fn_G {P : Program} {w : World} {K : PySem.W.Frag} {mg : Str → Option Value} {base : Heap} {x qual : Str} {params : Arguments} {body : List Stmt} {scope : Scope} {dvs : List V} {kws : List (Str × V)} {f : Addr} {fd : FuncData} {N ps : List Str} {k : Nat} {S : Spec} (F : FunD K x qual params body scope dvs kws f fd)
    (sc : FnScope N ps scope) (b : Ss) (hl : ∀ ds M Q, S ds M Q → ds.length = ps.length) (hm : b.mt ⟨N, scope, fun _ => true⟩ body = true) (hok : ∀ A, Room k A → A.guards = some [] → b.ok ⟨P, w, K, mg, base, A⟩)
    (hwp : ∀ ds M Q, szs ds → szM M → S ds M Q → b.wp (bodyEnds Q) (startD N ds) M) : FnG P w K mg base (k + 1) f fd ps S := by
  obtain ⟨oc, od, dV, kV, doc, pm, an, cdv, ct, osl, rfl, lk, hcd, _, _⟩ := F.ex
  refine ⟨hl, fun A outer s H args us vs Q E hr hg e0 hb r hsp => ?_⟩
  have hlen := rDL.len hl hsp
  have kIn : K.In s.heap := e0.mod.kin.keeps fun b o e => (e0.bs b o e).1
  have kinds : ∀ y ∈ ps.zip us, scope.names.lookup y.1 = some .local ∨ (scope.names.lookup y.1 = some .cell ∧ ((cellsFrom (s.heap.objs.size + 1) scope.names []).lookup y.1).isSome = true) := fun ⟨n, v⟩ hy =>
    (sc.par n (List.of_mem_zip hy).1).imp id fun q => ⟨q, PySem.W.cellsFrom_some _ _ _ (.inl q)⟩
  refine codeAny_call_function hr.depth (kIn _ _ lk) rfl sc.co sc.gen rfl (PySem.W.codeRec_of kIn hcd) (hb _ _ _ _ ?_)
  refine wpAny_newFunctionEnv_cells sc.kind kinds fun env he s1 x => ?_
  subst he
  refine ⟨(e0.mod.nolimit.keeps fun b o e => (e0.bs b o e).1).keeps x.toInCall.keep, codeAny_func ?_⟩
  have hr' := hr.deeper (envOfC qual scope s.heap.objs.size f cdv)
  have I : Inv (cxOf CX0 P w K mg base N qual scope f cdv A outer s H E) [] (L2.start N vs) H s1 := inv_start sc hr.hd e0 hlen r x
  have hb' := PSs.nox (pss_sz (b.snd (c := ⟨N, scope, fun _ => true⟩) (X := (cxOf CX0 P w K mg base N qual scope f cdv A outer s H E).nox) _ ⟨rfl, sc.nd, rfl, rfl, rfl, by have := hr'.un; show (A.deeper _).units + 65 < cLine; omega, deeper_cq⟩ PassesOwn.never (hok _ hr' hg) hm))
  refine wpAny_mono (hb'.run [] s1 (L2.start N vs) H { nx := fun _ H' => Q .non H', rt := Q } I ?_) (fun fl s' hs => ?_) fun e s' hs => hs
  · intro z
    obtain ⟨ds, M, Fr, Q0, r, m, fr, h, g⟩ := hsp
    refine ⟨startD N ds, M, Fr, _, ⟨start_rep r, m, fr⟩, hwp ds M Q0 (Reps.sz z r) (RepM.sz z m) h, ?_⟩
    exact ⟨fun ρ' M' σ' H' q t f s => g .non M' .non H' q t f s.rm rfl, fun d M' v H' q t f r p => g d M' v H' q t f r p, fun _ _ _ _ q _ _ _ => q.elim, fun _ _ _ _ q _ _ _ => q.elim⟩
  · cases fl with
    | ret u =>
      obtain ⟨v, σ', H', J, rv, q⟩ := hs
      exact ⟨v, H', J.os, J.bare, J.base, J.hok, rv, q⟩
    | next =>
      obtain ⟨σ', H', J, q⟩ := hs
      exact ⟨V.non, H', J.os, J.bare, J.base, J.hok, rfl, q⟩
    | brk => obtain ⟨_, _, _, q⟩ := hs; exact q.elim
    | cont => obtain ⟨_, _, _, q⟩ := hs; exact q.elim
theorem Callee.fnG {c : Co} {x : Str} {n k : Nat} {S : Spec} {f : Addr} {fd : FuncData} {ps : List Str} (F : FnG c.prog c.w c.K c.mg c.base k f fd ps S) (hr : Room k c.A) (hg : c.A.guards = some []) (hm : c.mg x = some (.ref f)) (hk : PySem.W.keepIn c.K (.ref f) = true) (hb : Binds c.K fd ps []) : Callee c x n [] S := by
  refine ⟨f, hm, hk, ?_⟩
  rintro X rfl hc pins s σ H Q us ws vs zs I r rz hl hz h
  have e : zs = [] := List.eq_nil_of_length_eq_zero hz
  subst e
  cases rz
  rw [List.append_nil] at h
  have hl : us.length = ps.length := by rw [← r.length]; exact rDL.len F.len h
  have hb' := hb s us I.kIn (by rw [List.append_nil]; exact hl)
  rw [List.append_nil] at hb'
  refine wpAny_call (codeAny_mono (F.run X.A X.stack s H ⟨us, []⟩ us vs Q (fun _ _ _ => False) hr hg I.env0 hb' r h) fun r s' hq => ?_)
  cases r with
  | error e => exact pass0 pins σ H s e s' I hq
  | ok fl =>
    cases fl with
    | ret u => exact I.after hq
    | next => exact False.elim hq
    | brk => exact False.elim hq
    | cont => exact False.elim hq
theorem law_end {P : Program} {w : World} {K : PySem.W.Frag} {mg mb : Str → Option Value} {k : Nat} {fa a : Addr} {fd : FuncData} {x : Str} {S : Spec} {s₁ : Shared} {vs : List Value} {ns : List Int}
    (kin : K.In s₁.heap) (hns : s₁.heap.Ns mainGlobals mg) (hb : s₁.heap.Ns builtinsNs mb) (hbb : ∀ x : Str, x ≠ "__name__" → mb x = bootBuiltins x) (hlim : s₁.heap.NoLimit) (hdig : s₁.heap.NoDigits) (hg : s₁.gens = #[])
    (ha : s₁.heap.get? a = some { cls := .type "list", data := .seq vs.toArray }) (hi : IntsAre vs ns) (hl : ns.length ≤ sizeLine) (hr : Room k callerA) (hka : K.lookup a = none)
    (F : ∀ base : Heap, K.In base → base.Ns mainGlobals mg → base.NoDigits → FnG P w K mg base k fa fd [x] S) (hbind : ∀ (s : Shared) (u : Value), BindsTo s fd ⟨[u], []⟩ [(x, u)])
    (hS : ∀ (a : Addr) (M : Mp), M a = some (.scr ns) → S [.ref a] M fun d _ => d = .bl true) :
    codeAny (model P w) callerA (.call (.ref fa) ⟨[.ref a], []⟩) (fun r s' => r = .ok (.ret (.bool true)) ∧ OldK s₁.heap s'.heap ∧ s'.os = s₁.os ∧ AllBare s'.gens) s₁ := by
  have rv := vals_ints hi
  let o : Obj := { cls := .type "list", data := .seq vs.toArray }
  let H : Hp := fun b => if b = a then some (.frz o (.lst (ns.map V.int))) else none
  have Ha : H a = some (.frz o (.lst (ns.map V.int))) := if_pos rfl
  have Hn : ∀ b, b ≠ a → H b = none := fun b hb => if_neg hb
  have hok : HOk P w H s₁.heap := fun b u z => by
    by_cases e : b = a
    · subst e
      rw [Ha] at z
      cases z
      exact ⟨ha, by rw [List.length_map]; exact hl, vs, _, rv, ha⟩
    · rw [Hn b e] at z; cases z
  have at_ : ∀ {b : Addr} {m : Str → Option Value}, s₁.heap.Ns b m → (hidT s₁.heap H).Ns b m := fun {b m} ⟨o', es, ep, e, d, r⟩ => ⟨o', es, ep, hidT_get e (Hn b fun z => by
    subst z
    rw [ha] at e
    cases e
    cases d), d, r⟩
  have kb : K.In (hidT s₁.heap H) := fun b u e => hidT_get (kin b u e) (Hn b fun z => by subst z; rw [hka] at e; cases e)
  have mod : Mod K mg (hidT s₁.heap H) := ⟨kb, at_ hns, ⟨mb, at_ hb, hbb⟩, let ⟨mc, h1, h2⟩ := hlim; ⟨mc, at_ h1, h2⟩⟩
  have e0 : Env0 P w K mg (hidT s₁.heap H) callerA [] s₁ H := ⟨rfl, mod, fun b o e => of_hidT e, Nat.le_of_eq (hidT_size _ _), trivial, fun b hb => absurd (show b ∈ ([] : List Addr) from hb) (by simp), hok, .of_eq hg⟩
  let M : Mp := fun b => if b = a then some (.scr ns) else none
  have m : RepM K H M := fun b u z => by
    by_cases e : b = a
    · subst e
      have z' := (if_pos rfl).symm.trans z
      cases z'
      exact ⟨o, Ha⟩
    · have z' := (if_neg e).symm.trans z
      cases z'
  have want : rDL K S [.ref a] H fun v _ => v = .bl true :=
    ⟨[.ref a], M, (fun _ => False), _, .cons rfl .nil, m, (fun _ h => h.elim), hS a M (if_pos rfl), fun d M' v H' q t f r p => by subst q; exact p⟩
  refine codeAny_mono ((F _ kb (at_ hns) (let ⟨mc, h1, h2⟩ := hdig; ⟨mc, at_ h1, h2⟩)).run callerA [] s₁ H ⟨[.ref a], []⟩ [.ref a] [.ref a] _ (fun _ _ _ => False) hr rfl e0 (hbind s₁ (.ref a)) (.cons rfl .nil) want) fun r s' h => ?_
  cases r with
  | error e => exact h.elim
  | ok fl =>
    cases fl with
    | next => exact False.elim h
    | brk => exact False.elim h
    | cont => exact False.elim h
    | ret u =>
      obtain ⟨v, H', os, bare, un, hok', r', q⟩ := h
      have q' : v = .bl true := q
      subst q'
      obtain rfl : u = Value.bool true := r'
      refine ⟨rfl, OldK.of_keep fun b u e => ?_, os, bare⟩
      by_cases eb : b = a
      · subst eb
        obtain ⟨e2, _⟩ := hok' b _ (un.frzs b o _ Ha)
        rw [ha] at e
        cases e
        exact e2
      · exact un.keep b u e (Hn b eb) (by intro z; exact absurd (show b ∈ ([] : List Addr) from z) (by simp)) (by simp)
end DL
local macro_rules | `(tactic| simp only [wW]) => `(tactic| simp only [DL.Ss.wp, DL.S.wp, DL.E.wp, DL.E.wpT, DL.Es.wp, DL.Es.wpV, DL.Es.wpT, DL.Oe.wpO, DL.Oe.wpT, DL.Wk.wp, DL.wSeq, DL.wRet, DL.wRetN, DL.wNext, DL.wNever, DL.wDrop, DL.wAsg, DL.wIfS, DL.wFor, DL.wPar, DL.wPar3, DL.wParJ, DL.wParK, DL.wStarA, DL.wUpdX, DL.wFldS, DL.wParF, DL.wSetI, DL.wSetK, DL.wDnew, DL.wDlit, DL.wMeth, DL.wBm, DL.wIxX, DL.wZipL, DL.wZipLT, DL.wItemsL, DL.wAndV, DL.wOrV, DL.wNotV, DL.wAnd, DL.wOr, DL.wNot, DL.wIfB, DL.wTest, DL.wTru, DL.wIf, DL.w1, DL.w2, DL.w3, DL.wVar, DL.wC, DL.wNil, DL.wCons, DL.wTup, DL.wLst, DL.wCall, DL.wCallK, DL.wO0, DL.wO1, DL.wSl, DL.wStep, DL.wStepV, DL.wLc, DL.wSc, DL.wISeq, DL.wIR1, DL.wIR2, DL.wIZip, DL.wIMix, DL.wIStr, DL.wIEn, DL.wDc, DL.DcK.emp, DL.Wk.wp, DL.binF, DL.cmpF, DL.cmpYF, DL.isaD, DL.negD, DL.Blt.spec, DL.Bm.spec, DL.Bm.ty, List.getElem?_cons_zero, List.getElem?_cons_succ, Option.some.injEq, exists_eq_left', exists_eq_left, exists_and_left, List.set_cons_zero, List.set_cons_succ, DL.asn_name, DL.asn_tup, DL.asns_nil, DL.asns_name, DL.wipeD, DL.tru_bl, DL.tru_int, DL.tru_non, DL.tru_tup, DL.bodyEnds, List.map_cons, List.map_nil, ↓reduceIte, Bool.false_eq_true, and_true, true_and, DL.D.str.injEq, DL.D.int.injEq, DL.D.ref.injEq, DL.D.tup.injEq, DL.D.bl.injEq]) | `(tactic| simp only [wW, $ts,*]) => `(tactic| simp only [DL.Ss.wp, DL.S.wp, DL.E.wp, DL.E.wpT, DL.Es.wp, DL.Es.wpV, DL.Es.wpT, DL.Oe.wpO, DL.Oe.wpT, DL.Wk.wp, DL.wSeq, DL.wRet, DL.wRetN, DL.wNext, DL.wNever, DL.wDrop, DL.wAsg, DL.wIfS, DL.wFor, DL.wPar, DL.wPar3, DL.wParJ, DL.wParK, DL.wStarA, DL.wUpdX, DL.wFldS, DL.wParF, DL.wSetI, DL.wSetK, DL.wDnew, DL.wDlit, DL.wMeth, DL.wBm, DL.wIxX, DL.wZipL, DL.wZipLT, DL.wItemsL, DL.wAndV, DL.wOrV, DL.wNotV, DL.wAnd, DL.wOr, DL.wNot, DL.wIfB, DL.wTest, DL.wTru, DL.wIf, DL.w1, DL.w2, DL.w3, DL.wVar, DL.wC, DL.wNil, DL.wCons, DL.wTup, DL.wLst, DL.wCall, DL.wCallK, DL.wO0, DL.wO1, DL.wSl, DL.wStep, DL.wStepV, DL.wLc, DL.wSc, DL.wISeq, DL.wIR1, DL.wIR2, DL.wIZip, DL.wIMix, DL.wIStr, DL.wIEn, DL.wDc, DL.DcK.emp, DL.Wk.wp, DL.binF, DL.cmpF, DL.cmpYF, DL.isaD, DL.negD, DL.Blt.spec, DL.Bm.spec, DL.Bm.ty, List.getElem?_cons_zero, List.getElem?_cons_succ, Option.some.injEq, exists_eq_left', exists_eq_left, exists_and_left, List.set_cons_zero, List.set_cons_succ, DL.asn_name, DL.asn_tup, DL.asns_nil, DL.asns_name, DL.wipeD, DL.tru_bl, DL.tru_int, DL.tru_non, DL.tru_tup, DL.bodyEnds, List.map_cons, List.map_nil, ↓reduceIte, Bool.false_eq_true, and_true, true_and, DL.D.str.injEq, DL.D.int.injEq, DL.D.ref.injEq, DL.D.tup.injEq, DL.D.bl.injEq, $ts,*]) | `(tactic| simp only [wW, $ts,*] at $h:ident) => `(tactic| simp only [DL.Ss.wp, DL.S.wp, DL.E.wp, DL.E.wpT, DL.Es.wp, DL.Es.wpV, DL.Es.wpT, DL.Oe.wpO, DL.Oe.wpT, DL.Wk.wp, DL.wSeq, DL.wRet, DL.wRetN, DL.wNext, DL.wNever, DL.wDrop, DL.wAsg, DL.wIfS, DL.wFor, DL.wPar, DL.wPar3, DL.wParJ, DL.wParK, DL.wStarA, DL.wUpdX, DL.wFldS, DL.wParF, DL.wSetI, DL.wSetK, DL.wDnew, DL.wDlit, DL.wMeth, DL.wBm, DL.wIxX, DL.wZipL, DL.wZipLT, DL.wItemsL, DL.wAndV, DL.wOrV, DL.wNotV, DL.wAnd, DL.wOr, DL.wNot, DL.wIfB, DL.wTest, DL.wTru, DL.wIf, DL.w1, DL.w2, DL.w3, DL.wVar, DL.wC, DL.wNil, DL.wCons, DL.wTup, DL.wLst, DL.wCall, DL.wCallK, DL.wO0, DL.wO1, DL.wSl, DL.wStep, DL.wStepV, DL.wLc, DL.wSc, DL.wISeq, DL.wIR1, DL.wIR2, DL.wIZip, DL.wIMix, DL.wIStr, DL.wIEn, DL.wDc, DL.DcK.emp, DL.Wk.wp, DL.binF, DL.cmpF, DL.cmpYF, DL.isaD, DL.negD, DL.Blt.spec, DL.Bm.spec, DL.Bm.ty, List.getElem?_cons_zero, List.getElem?_cons_succ, Option.some.injEq, exists_eq_left', exists_eq_left, exists_and_left, List.set_cons_zero, List.set_cons_succ, DL.asn_name, DL.asn_tup, DL.asns_nil, DL.asns_name, DL.wipeD, DL.tru_bl, DL.tru_int, DL.tru_non, DL.tru_tup, DL.bodyEnds, List.map_cons, List.map_nil, ↓reduceIte, Bool.false_eq_true, and_true, true_and, DL.D.str.injEq, DL.D.int.injEq, DL.D.ref.injEq, DL.D.tup.injEq, DL.D.bl.injEq, $ts,*] at $h:ident)
namespace DL
open PySem L2
theorem kind_ref {a : Addr} {M : Mp} {k : String} (h : kind (.ref a) M = some k) : k = "list" ∨ k = "dict" := by
  have h : kindO (M a) = some k := h
  unfold kindO at h
  split at h <;> first | (cases h; simp; done) | cases h
theorem isaB_ref {c : Cs} {a : Addr} {M : Mp} {T : String} (h : kn (.ref a) M) (h1 : T ≠ "list") (h2 : T ≠ "dict") : isaB c T (.ref a) M = some false := by
  obtain ⟨k, h⟩ := h
  unfold isaB
  rw [h]
  rcases kind_ref h with rfl | rfl <;> simp [Ne.symm h1, Ne.symm h2]
theorem kn_ty {n : String} {M : Mp} (h : kn (.ty n) M) : False := by obtain ⟨k, h⟩ := h; cases h
def isWh (d : D) (lo hi : Int) : Bool := match d with
  | .int i => decide (lo ≤ i) && decide (i ≤ hi)
  | _ => false
def S_is_whole (_ : Cs) : Spec := fun ds M Q => ∃ d lo hi, ds = [d, .int lo, .int hi] ∧ kn d M ∧ Q (.bl (isWh d lo hi)) M
abbrev N_is_whole : List Str := ["thing", "low", "high"]
def ir_is_whole (c : Cs) : Ss := (.cons (.ret (.bop .And (.cons (.isa (.var 0) (.bty "int") (isaB c "int")) (.cons (.not_ (.isa (.var 0) (.bty "bool") (isaB c "bool"))) (.cons (.chain .LtE .LtE (.var 1) (.var 0) (.var 2)) .nil))))) .nil)
theorem wp_is_whole (c : Cs) {d : D} {lo hi : Int} {M : Mp} {Q : DQ} (hk : kn d M) (h : Q (.bl (isWh d lo hi)) M) : (ir_is_whole c).wp (bodyEnds Q) [some d, some (.int lo), some (.int hi)] M := by
  simp only [wW, ir_is_whole]
  cases d with
  | ty n => exact (kn_ty hk).elim
  | ref a =>
    refine ⟨false, isaB_ref hk (by decide) (by decide), ?_⟩
    simpa [isWh] using h
  | int i =>
    refine ⟨true, rfl, ?_⟩
    rw [if_pos rfl]
    refine ⟨false, rfl, ?_⟩
    refine (if_pos rfl).mpr (ord_int ⟨_, rfl, ?_⟩)
    by_cases h1 : lo ≤ i
    · simp only [h1, decide_true, if_true]
      refine ord_int ?_
      simpa [isWh, h1] using h
    · simp only [h1, decide_false]
      simpa [isWh, h1] using h
  | bl b =>
    refine ⟨true, rfl, ?_⟩
    rw [if_pos rfl]
    exact ⟨true, rfl, by simpa [isWh] using h⟩
  | _ => exact ⟨false, rfl, by simpa [isWh] using h⟩
def areWh (d : D) (lo hi : Int) : Bool := match d with
  | .tup xs => xs.all fun x => isWh x lo hi
  | _ => false
def kns (d : D) (M : Mp) : Prop := kn d M ∧ ∀ xs, d = .tup xs → ∀ x ∈ xs, kn x M
def S_are_whole (_ : Cs) : Spec := fun ds M Q => ∃ d lo hi, ds = [d, .int lo, .int hi] ∧ kns d M ∧ ∀ M', Keep M M' → Q (.bl (areWh d lo hi)) M'
abbrev N_are_whole : List Str := ["thing", "low", "high", "one"]
def ir_are_whole (c : Cs) : Ss := (.cons (.ret (.bop .And (.cons (.isa (.var 0) (.bty "tuple") (isaB c "tuple")) (.cons (.bcall .all (.cons (.lc [("one", 3)] (.name 3) (.seq (.var 0)) .none (.call "is_whole" (S_is_whole c) (.cons (.var 3) (.cons (.var 1) (.cons (.var 2) .nil))))) .nil)) .nil)))) .nil)
theorem seqT_t {ds : List D} {M : Mp} : seqT M (.tup ds) ⟨ds, fun _ => True⟩ := .inl ⟨ds, rfl, rfl⟩
theorem seqT_l {p : Addr} {ds : List D} {M : Mp} (h : M p = some (.lst ds)) : seqT M (.ref p) ⟨ds, fun M => M p = some (.lst ds)⟩ := .inr ⟨p, ds, rfl, h, rfl⟩
theorem wp_are_whole (c : Cs) {d : D} {lo hi : Int} {M : Mp} {Q : DQ} (hz : sz d) (hk : kns d M) (h : ∀ M', Keep M M' → Q (.bl (areWh d lo hi)) M') : (ir_are_whole c).wp (bodyEnds Q) [some d, some (.int lo), some (.int hi), none] M := by
  simp only [wW, ir_are_whole]
  cases d with
  | ty n => exact (kn_ty hk.1).elim
  | ref a => exact ⟨false, isaB_ref hk.1 (by decide) (by decide), by simpa [areWh] using h M (.refl M)⟩
  | tup xs =>
    refine ⟨true, rfl, (if_pos rfl).mpr ⟨_, seqT_t, (sz_tup hz).1, ?_⟩⟩
    refine all_go (fun x => isWh x lo hi) (fun _ _ => trivial) (fun x hx M2 k h2 hkk => ⟨_, rfl, ?_⟩) h
    simp only [wW]
    exact ⟨x, lo, hi, rfl, (hk.2 xs rfl x hx).keep h2, hkk M2 h2⟩
  | _ => exact ⟨false, rfl, by simpa [areWh] using h M (.refl M)⟩
def isLetter (c : Nat) : Bool := decide (97 ≤ c) && decide (c ≤ 122)
def nameS (x : Str) : Bool := decide (1 ≤ x.length) && decide (x.length ≤ 6) && x.cps.toList.all isLetter
def isNm (d : D) : Bool := match d with
  | .str x => nameS x
  | _ => false
def S_is_name (_ : Cs) : Spec := fun ds M Q => ∃ d, ds = [d] ∧ kn d M ∧ (∀ x, d = .str x → x.length ≤ sizeLine) ∧ ∀ M', Keep M M' → Q (.bl (isNm d)) M'
abbrev N_is_name : List Str := ["thing", "sign"]
def ir_is_name (c : Cs) : Ss := (.cons (.ret (.bop .And (.cons (.isa (.var 0) (.bty "str") (isaB c "str")) (.cons (.chain .LtE .LtE (.int 1) (.bcall .len (.cons (.var 0) .nil)) (.glob "MOST_LETTERS" (.int 6))) (.cons (.bcall .all (.cons (.lc [("sign", 1)] (.name 1) (.str (.var 0)) .none (.cmp .In (.var 1) (.glob "LETTERS" (.str "abcdefghijklmnopqrstuvwxyz")))) .nil)) .nil))))) .nil)
theorem letters_mem (c : Nat) : decide (c ∈ (Str.ofString "abcdefghijklmnopqrstuvwxyz").cps.toList) = isLetter c := by
  have e : (Str.ofString "abcdefghijklmnopqrstuvwxyz").cps.toList = (List.range 26).map (97 + ·) := by decide +kernel
  rw [e]
  unfold isLetter
  by_cases h : 97 ≤ c ∧ c ≤ 122
  · rw [decide_eq_true h.1, decide_eq_true h.2, decide_eq_true]
    · rfl
    · exact List.mem_map.mpr ⟨c - 97, List.mem_range.mpr (by omega), by omega⟩
  · rw [decide_eq_false]
    · by_cases h1 : 97 ≤ c
      · rw [decide_eq_true h1, decide_eq_false (fun h2 => h ⟨h1, h2⟩)]; rfl
      · rw [decide_eq_false h1]; rfl
    · intro hm
      obtain ⟨i, hi, e⟩ := List.mem_map.mp hm
      rw [List.mem_range] at hi
      exact h (by omega)
theorem wp_is_name (c : Cs) {d : D} {M : Mp} {Q : DQ} (hk : kn d M) (hl : ∀ x, d = .str x → x.length ≤ sizeLine) (h : ∀ M', Keep M M' → Q (.bl (isNm d)) M') : (ir_is_name c).wp (bodyEnds Q) [some d, none] M := by
  simp only [wW, ir_is_name]
  cases d with
  | ty n => exact (kn_ty hk).elim
  | ref a => exact ⟨false, isaB_ref hk (by decide) (by decide), by simpa [isNm] using h M (.refl M)⟩
  | str x =>
    have hx := hl x rfl
    refine ⟨true, rfl, (if_pos rfl).mpr ?_⟩
    refine ⟨_, _, rfl, ⟨hx, rfl⟩, ord_int ⟨_, rfl, ?_⟩⟩
    by_cases h1 : 1 ≤ x.length
    · have h1' : (1 : Int) ≤ (x.length : Int) := by omega
      simp only [h1', decide_true, if_true]
      refine ord_int ⟨_, rfl, ?_⟩
      by_cases h2 : x.length ≤ 6
      · have h2' : (x.length : Int) ≤ 6 := by omega
        simp only [h2', decide_true, if_true]
        have hz : (strI x).length ≤ sizeLine := by
          have e : (strI x).length = x.length := by unfold strI; rw [List.length_map, Array.length_toList]; rfl
          rw [e]; exact hx
        refine ⟨x, rfl, hz, ?_⟩
        have e : isNm (.str x) = (strI x).all fun d => match d with | .str y => y.cps.toList.all isLetter | _ => false := by
          show nameS x = _
          unfold nameS strI
          rw [decide_eq_true h1, decide_eq_true h2, List.all_map]
          show x.cps.toList.all isLetter = _
          congr 1
          funext cc
          simp
        refine all_go (T := ⟨strI x, fun _ => True⟩) (fun d => match d with | .str y => y.cps.toList.all isLetter | _ => false) (fun _ _ => trivial) (fun y hy M2 k h2 hkk => ⟨_, rfl, ?_⟩) (fun M2 h2 => by rw [← e]; exact h M2 h2)
        obtain ⟨cc, _, rfl⟩ := List.mem_map.mp hy
        simp only [wW]
        refine .inr ⟨cc, _, rfl, rfl, ?_⟩
        have q := hkk M2 h2
        show k (.bl (decide (cc ∈ _))) M2
        rw [letters_mem]
        simpa using q
      · have h2' : ¬ (x.length : Int) ≤ 6 := by omega
        simp only [h2', decide_false]
        simpa [isNm, nameS, h1, h2] using h M (.refl M)
    · have h1' : ¬ (1 : Int) ≤ (x.length : Int) := by omega
      simp only [h1', decide_false]
      simpa [isNm, nameS, h1] using h M (.refl M)
  | _ => exact ⟨false, rfl, by simpa [isNm] using h M (.refl M)⟩
def ltP (x y : D) : Bool := PySem.W.dataLt (py x) (py y)
def risB : List D → Bool
  | x :: y :: r => ltP x y && risB (y :: r)
  | _ => true
def cmpP (x y : D) : Prop := plain x = true ∧ plain y = true ∧ PySem.W.alike (py x) (py y) = true ∧ py x ≠ .none ∧ (py x).depth ≤ 64
def cmpL : List D → Prop
  | x :: y :: r => cmpP x y ∧ cmpL (y :: r)
  | _ => True
theorem lt_plain {x y : D} {M : Mp} {Q : DQ} (h : cmpP x y) (q : Q (.bl (ltP x y)) M) : ordD .lt x y M Q := .inr ⟨py x, py y, .plain h.1, .plain h.2.1, h.2.2.1, h.2.2.2.1, h.2.2.2.2, q⟩
def S_are_rising (_ : Cs) : Spec := fun ds M Q => ∃ d xs, ds = [d] ∧ seqD M d xs ∧ cmpL xs ∧ ∀ M', Keep M M' → Q (.bl (risB xs)) M'
abbrev N_are_rising : List Str := ["some", "one", "other"]
def ir_are_rising (c : Cs) : Ss := (.cons (.ret (.bcall .all (.cons (.lc [("one", 1), ("other", 2)] (.tup (.cons (.name 1) (.cons (.name 2) .nil))) (.zip (.var 0) (.slc (.var 0) (.some (.int 1)) .none)) .none (.cmp .Lt (.var 1) (.var 2))) .nil))) .nil)
theorem cut_one {α : Type} (xs : List α) : cutL xs (some 1) none = xs.drop 1 := by
  unfold cutL
  rw [show HT.sIx xs.length 0 (some 1) = min 1 xs.length from HT.sIx_nat xs.length 0 1, HT.sIx_none]
  cases xs with
  | nil => rfl
  | cons x r =>
    rw [show min 1 (x :: r).length = 1 by rw [List.length_cons]; omega]
    show (List.take ((x :: r).length - 1) r) = r
    rw [List.length_cons, Nat.add_sub_cancel]
    exact List.take_length
theorem slD_t {ds ds' : List D} {lo hi : Option Int} {M : Mp} {Q : DQ} (e : cutL ds lo hi = ds') (h : Q (.tup ds') M) : slD (.tup ds) lo hi M Q := by subst e; exact h
theorem slD_l {p : Addr} {ds ds' : List D} {lo hi : Option Int} {M : Mp} {Q : DQ} (e : cutL ds lo hi = ds') (hp : M p = some (.lst ds)) (h : ∀ l, M l = none → Q (.ref l) (up M l (.lst ds'))) : slD (.ref p) lo hi M Q := by subst e; exact ⟨ds, hp, h⟩
theorem slD_s {z z' : Str} {lo hi : Option Int} {M : Mp} {Q : DQ} (e : cutS z lo hi = z') (hz : z.length ≤ sizeLine) (h : Q (.str z') M) : slD (.str z) lo hi M Q := by subst e; exact ⟨hz, h⟩
theorem zip_tail : ∀ (xs : List D), cmpL xs → (∀ z ∈ zipI xs (xs.drop 1), ∃ x y, z = .tup [x, y] ∧ cmpP x y) ∧ (zipI xs (xs.drop 1)).all (fun z => match z with | .tup [x, y] => ltP x y | _ => false) = risB xs
  | [], _ => ⟨fun z hz => (by cases hz), rfl⟩
  | [x], _ => ⟨fun z hz => (by cases hz), rfl⟩
  | x :: y :: r, h => by
    unfold cmpL at h
    obtain ⟨h1, h2⟩ := zip_tail (y :: r) h.2
    have e : zipI (x :: y :: r) ((x :: y :: r).drop 1) = .tup [x, y] :: zipI (y :: r) ((y :: r).drop 1) := rfl
    rw [e]
    refine ⟨fun z hz => ?_, ?_⟩
    · rcases List.mem_cons.mp hz with rfl | hz
      · exact ⟨x, y, rfl, h.1⟩
      · exact h1 z hz
    · rw [List.all_cons, h2]
      rfl
theorem wp_are_rising (c : Cs) {d : D} {xs : List D} {M : Mp} {Q : DQ} (hs : seqD M d xs) (hz : xs.length ≤ sizeLine) (hc : cmpL xs) (h : ∀ M', Keep M M' → Q (.bl (risB xs)) M') : (ir_are_rising c).wp (bodyEnds Q) [some d, none, none] M := by
  simp only [wW, ir_are_rising]
  obtain ⟨h1, h2⟩ := zip_tail xs hc
  have hz' : (zipI xs (xs.drop 1)).length ≤ sizeLine := by rw [zipI_len, List.length_drop]; omega
  have go : ∀ (T : DIt) (M1 : Mp), T.items = zipI xs (xs.drop 1) → Keep M M1 → (∀ M2, Keep M1 M2 → T.keep M2) → T.items.length ≤ sizeLine ∧ lcGo T (.tup (.cons (.name 1) (.cons (.name 2) .nil))) wYes (w2 (ordD Ord.lt) (wVar 1) (wVar 2)) [some d, none, none] (fun acc M2 => ∀ (p : Addr), M2 p = none → allS [D.ref p] (up M2 p (MO.lst acc)) Q) T.items [] M1 := by
    intro T M1 e k1 kT
    refine ⟨by rw [e]; exact hz', all_go (fun z => match z with | .tup [x, y] => ltP x y | _ => false) kT (fun z hz M2 k k2 hk => ?_) fun M2 k2 => ?_⟩
    · rw [e] at hz
      obtain ⟨x, y, rfl, hxy⟩ := h1 z hz
      refine ⟨_, rfl, ?_⟩
      simp only [wW]
      exact lt_plain hxy (hk M2 k2)
    · rw [e, h2]
      exact h M2 (k1.trans k2)
  rcases hs with rfl | ⟨a, rfl, ha⟩
  · exact slD_t (cut_one xs) ⟨_, .inl ⟨xs, _, rfl, rfl, rfl⟩, go _ M rfl (.refl M) fun _ _ => trivial⟩
  · refine slD_l (cut_one xs) ha fun l hl => ?_
    have e1 : up M l (.lst (xs.drop 1)) a = some (.lst xs) := Keep.new hl a _ ha
    have e2 : up M l (.lst (xs.drop 1)) l = some (.lst (xs.drop 1)) := up_same
    exact ⟨_, .inr ⟨a, l, xs, _, rfl, rfl, e1, e2, rfl⟩, go _ _ rfl (.new hl) fun M2 k2 => ⟨k2 _ _ e1, k2 _ _ e2⟩⟩
def isPr (d : D) (lo hi : Int) : Bool := match d with
  | .tup [x, y] => isWh x lo hi && isWh y lo hi
  | _ => false
theorem isWh_int {d : D} {lo hi : Int} (h : isWh d lo hi = true) : ∃ i, d = .int i := by
  cases d <;> first | exact ⟨_, rfl⟩ | cases h
theorem cmpL_of : ∀ {xs : List D}, (∀ x ∈ xs, ∀ y ∈ xs, cmpP x y) → cmpL xs
  | [], _ => trivial
  | [_], _ => trivial
  | x :: y :: r, h => ⟨h x (by simp) y (by simp), cmpL_of fun a ha b hb => h a (List.mem_cons_of_mem _ ha) b (List.mem_cons_of_mem _ hb)⟩
end DL
namespace DL
open PySem L2
theorem atI_nat {α : Type} {xs : List α} {n : Nat} {x : α} (h : xs[n]? = some x) : L2.atI xs (n : Int) = some x := by
  have hl : n < xs.length := by
    rcases Nat.lt_or_ge n xs.length with h1 | h1
    · exact h1
    · rw [List.getElem?_eq_none h1] at h; cases h
  unfold L2.atI L2.ixN
  rw [if_pos (by omega), if_pos (by omega)]
  show xs[(n : Int).toNat]? = some x
  rw [Int.toNat_natCast]
  exact h
theorem ix_t (n : Nat) {ds : List D} {d : D} {M : Mp} {Q : DQ} (h : ds[n]? = some d) (q : Q d M) : ixD (.tup ds) (.int (n : Int)) M Q := .inl ⟨ds, n, d, .inl rfl, rfl, atI_nat h, q⟩
theorem ix_l (n : Nat) {p : Addr} {ds : List D} {d : D} {M : Mp} {Q : DQ} (hp : M p = some (.lst ds)) (h : ds[n]? = some d) (q : Q d M) : ixD (.ref p) (.int (n : Int)) M Q := .inl ⟨ds, n, d, .inr ⟨p, rfl, hp⟩, rfl, atI_nat h, q⟩
theorem len_t {ds : List D} {M : Mp} {Q : DQ} (q : Q (.int ds.length) M) : lenS [.tup ds] M Q := ⟨_, ds.length, rfl, rfl, q⟩
theorem len_l {p : Addr} {ds : List D} {M : Mp} {Q : DQ} (hp : M p = some (.lst ds)) (q : Q (.int ds.length) M) : lenS [.ref p] M Q := ⟨_, ds.length, rfl, .inl ⟨ds, hp, rfl⟩, q⟩
def called (x : D) : Prop := ∃ nm d, x = .tup [.str nm, d] ∧ nameS nm = true
def nameD : D → D
  | .tup (n :: _) => n
  | _ => .non
theorem nameS_len {x : Str} (h : nameS x = true) : x.length ≤ sizeLine := by
  unfold nameS at h
  rw [Bool.and_eq_true, Bool.and_eq_true] at h
  have := of_decide_eq_true h.1.2
  rw [sizeLine_eq]; omega
structure RulesOk (many : Int) (xs : List D) : Prop where
  len : xs.length ≤ 3
  each : ∀ x ∈ xs, ∃ nm prs, x = .tup [.str nm, .tup prs] ∧ nameS nm = true ∧ (∀ p ∈ prs, isPr p 0 (many - 1) = true) ∧ risB prs = true
  rise : risB (xs.map nameD) = true
structure ListsOk (many : Int) (xs : List D) : Prop where
  len : xs.length ≤ 6
  each : ∀ x ∈ xs, ∃ nm ms, x = .tup [.str nm, .tup ms] ∧ nameS nm = true ∧ (∀ m ∈ ms, isWh m 0 (many - 1) = true) ∧ risB ms = true
  rise : risB (xs.map nameD) = true
theorem RulesOk.called {many : Int} {xs : List D} (h : RulesOk many xs) : ∀ x ∈ xs, DL.called x := fun x hx => by
  obtain ⟨nm, prs, e, hn, _⟩ := h.each x hx
  exact ⟨nm, _, e, hn⟩
theorem ListsOk.called {many : Int} {xs : List D} (h : ListsOk many xs) : ∀ x ∈ xs, DL.called x := fun x hx => by
  obtain ⟨nm, prs, e, hn, _⟩ := h.each x hx
  exact ⟨nm, _, e, hn⟩
theorem lt_trans' {x y z : D} (h1 : ltP x y = true) (h2 : ltP y z = true) : ltP x z = true := PyProof.Rows.lex_trans _ _ _ h1 h2
theorem ris_pair : ∀ {xs : List D}, risB xs = true → xs.Pairwise fun x y => ltP x y = true
  | [], _ => .nil
  | [x], _ => .cons (fun y hy => by cases hy) .nil
  | x :: y :: r, h => by
    unfold risB at h
    rw [Bool.and_eq_true] at h
    have ih := ris_pair h.2
    refine .cons (fun z hz => ?_) ih
    rcases List.mem_cons.mp hz with rfl | hz
    · exact h.1
    · exact lt_trans' h.1 (List.rel_of_pairwise_cons ih hz)
def kPair (x : D) : List Key := match x with
  | .tup [.int i, .int j] => [.inl i, .inl j]
  | _ => []
def kMark (x : D) : Key := match x with
  | .int i => .inl i
  | _ => .inr ""
def houseL (m r l p q : D) : List (Str × D) := [("many", m), ("rules", r), ("lists", l), ("pairs_by", p), ("marks_by", q)]
def PrK (c : Cs) (r : D) (v : D) (M : Mp) : Prop := ∀ nm prs, r = .tup [.str nm, .tup prs] → ∃ pd pk, v = .ref pd ∧ M pd = some (.dX c.P c.w pk) ∧ pk.map Prod.fst = prs.map kPair
def MkK (r : D) (v : D) (M : Mp) : Prop := ∀ nm ms, r = .tup [.str nm, .tup ms] → ∃ pd pk, v = .ref pd ∧ M pd = some (.dK pk) ∧ pk.map Prod.fst = ms.map kMark
def kName (x : D) : Key := match nameD x with
  | .str nm => .inr nm
  | _ => .inl 0
def HouseAt (c : Cs) (M : Mp) (hh : Addr) (n : Int) (rs ls : List D) : Prop := ∃ d1 d2 kv1 kv2, M hh = some (.ins c.House (houseL (.int n) (.tup rs) (.tup ls) (.ref d1) (.ref d2))) ∧ M d1 = some (.dK kv1) ∧ M d2 = some (.dK kv2) ∧
  PySem.Paired (fun x (kv : Key × D) => kv.1 = kName x ∧ PrK c x kv.2 M) rs kv1 ∧ PySem.Paired (fun x (kv : Key × D) => kv.1 = kName x ∧ MkK x kv.2 M) ls kv2
theorem PrK.keep {c : Cs} {r v : D} {M M' : Mp} (h : PrK c r v M) (k : ∀ a o, (∀ C fs, o ≠ .ins C fs) → M a = some o → M' a = some o) : PrK c r v M' := fun nm prs e => by
  obtain ⟨pd, pk, e1, e2, e3⟩ := h nm prs e
  exact ⟨pd, pk, e1, k _ _ (fun C fs q => by cases q) e2, e3⟩
theorem MkK.keep {r v : D} {M M' : Mp} (h : MkK r v M) (k : ∀ a o, (∀ C fs, o ≠ .ins C fs) → M a = some o → M' a = some o) : MkK r v M' := fun nm prs e => by
  obtain ⟨pd, pk, e1, e2, e3⟩ := h nm prs e
  exact ⟨pd, pk, e1, k _ _ (fun C fs q => by cases q) e2, e3⟩
theorem HouseAt.keep {c : Cs} {M M' : Mp} {hh : Addr} {n : Int} {rs ls : List D} (h : HouseAt c M hh n rs ls) (k : Keep M M') : HouseAt c M' hh n rs ls := by
  obtain ⟨d1, d2, kv1, kv2, e0, e1, e2, p1, p2⟩ := h
  exact ⟨d1, d2, kv1, kv2, k _ _ e0, k _ _ e1, k _ _ e2, p1.mono fun a b q => ⟨q.1, q.2.keep fun a o _ e => k a o e⟩, p2.mono fun a b q => ⟨q.1, q.2.keep fun a o _ e => k a o e⟩⟩
theorem nodup_on {α β : Type} {f : α → β} : ∀ {xs : List α}, xs.Nodup → (∀ x ∈ xs, ∀ y ∈ xs, f x = f y → x = y) → (xs.map f).Nodup
  | [], _, _ => .nil
  | x :: xs, h, hi => by
    rw [List.map_cons]
    rw [List.nodup_cons] at h ⊢
    refine ⟨fun hm => ?_, nodup_on h.2 fun a ha b hb => hi a (List.mem_cons_of_mem _ ha) b (List.mem_cons_of_mem _ hb)⟩
    obtain ⟨y, hy, e⟩ := List.mem_map.mp hm
    have := hi y (List.mem_cons_of_mem _ hy) x List.mem_cons_self e
    subst this
    exact h.1 hy
end DL
namespace DL
open PySem L2
def tie (nm : Str) (is : List Int) : D := .tup (.str nm :: is.map D.int)
structure TiesOk (knots : Int) (n : Nat) (xs : List D) : Prop where
  each : ∀ x ∈ xs, ∃ nm is, x = tie nm is ∧ is.length = n ∧ nameS nm = true ∧ ∀ i ∈ is, 0 ≤ i ∧ i ≤ knots - 1
  rise : risB xs = true
theorem alike_ints : ∀ (is js : List Int), PySem.W.alikeAll (pys (is.map D.int)) (pys (js.map D.int)) = true
  | [], _ => by simp [pys, PySem.W.alikeAll]
  | _ :: _, [] => by simp [pys, PySem.W.alikeAll]
  | i :: is, j :: js => by simp [pys, py, PySem.W.alikeAll, PySem.W.alike, alike_ints is js]
theorem depth_ints : ∀ (is : List Int), PyData.depthAll (pys (is.map D.int)) ≤ 1
  | [] => by simp [pys, PyData.depthAll]
  | i :: is => by
    have := depth_ints is
    simp [pys, py, PyData.depthAll, PyData.depth]
    omega
theorem plains_ints : ∀ (is : List Int), plains (is.map D.int) = true
  | [] => rfl
  | i :: is => by
    show (plain (.int i) && plains (is.map D.int)) = true
    rw [plains_ints is]; rfl
theorem cmpP_tie (n1 n2 : Str) (is js : List Int) : cmpP (tie n1 is) (tie n2 js) := by
  refine ⟨?_, ?_, ?_, ?_, ?_⟩
  · show (plain (.str n1) && plains (is.map D.int)) = true
    rw [plains_ints]; rfl
  · show (plain (.str n2) && plains (js.map D.int)) = true
    rw [plains_ints]; rfl
  · simp [tie, py, pys, PySem.W.alike, PySem.W.alikeAll, alike_ints]
  · simp [tie, py]
  · have := depth_ints is
    simp [tie, py, pys, PyData.depth, PyData.depthAll]
    omega
theorem TiesOk.cmp {knots : Int} {n : Nat} {xs : List D} (h : TiesOk knots n xs) : cmpL xs := cmpL_of fun x hx y hy => by
  obtain ⟨n1, is, rfl, _⟩ := h.each x hx
  obtain ⟨n2, js, rfl, _⟩ := h.each y hy
  exact cmpP_tie n1 n2 is js
structure TieK (M : Mp) (x : D) : Prop where
  kn : kns x M
  st : ∀ ys, x = .tup ys → ∀ z, .str z ∈ ys → z.length ≤ sizeLine
theorem TieK.keep {M M' : Mp} {x : D} (h : TieK M x) (k : Keep M M') : TieK M' x := ⟨⟨h.kn.1.keep k, fun xs e y hy => (h.kn.2 xs e y hy).keep k⟩, h.st⟩
def tieB (knots size : Int) (x : D) : Bool := match x with
  | .tup (y :: r) => decide (((y :: r).length : Int) = size) && (isNm y && areWh (.tup r) 0 (knots - 1))
  | _ => false
def tiesB (knots size most : Int) (d : D) : Bool := match d with
  | .tup xs => decide ((xs.length : Int) ≤ most) && ((xs.all fun x => tieB knots size x) && risB xs)
  | _ => false
theorem whs_ints : ∀ {r : List D} {lo hi : Int}, areWh (.tup r) lo hi = true → ∃ is : List Int, r = is.map D.int ∧ ∀ i ∈ is, lo ≤ i ∧ i ≤ hi
  | [], _, _, _ => ⟨[], rfl, fun _ h => nomatch h⟩
  | x :: r, lo, hi, h => by
    have h : ((x :: r).all fun x => isWh x lo hi) = true := h
    rw [List.all_cons, Bool.and_eq_true] at h
    obtain ⟨is, e, hi'⟩ := whs_ints (r := r) (lo := lo) (hi := hi) h.2
    obtain ⟨i, rfl⟩ := isWh_int h.1
    have h1 : (decide (lo ≤ i) && decide (i ≤ hi)) = true := h.1
    rw [Bool.and_eq_true, decide_eq_true_eq, decide_eq_true_eq] at h1
    refine ⟨i :: is, by rw [e]; rfl, fun j hj => ?_⟩
    rcases List.mem_cons.mp hj with rfl | hj
    · exact h1
    · exact hi' j hj
theorem tieB_tie {knots size : Int} {x : D} (h : tieB knots size x = true) : ∃ nm is, x = tie nm is ∧ ((is.length : Int) + 1 = size) ∧ nameS nm = true ∧ ∀ i ∈ is, 0 ≤ i ∧ i ≤ knots - 1 := by
  unfold tieB at h
  split at h
  · rename_i y r
    rw [Bool.and_eq_true, Bool.and_eq_true, decide_eq_true_eq] at h
    obtain ⟨h1, h2, h3⟩ := h
    obtain ⟨is, rfl, hi⟩ := whs_ints h3
    unfold isNm at h2
    split at h2
    · rename_i nm
      exact ⟨nm, is, rfl, by rw [List.length_cons, List.length_map] at h1; omega, h2, hi⟩
    · cases h2
  · cases h
theorem tie_tieB {knots : Int} {nm : Str} {is : List Int} (hn : nameS nm = true) (hi : ∀ i ∈ is, 0 ≤ i ∧ i ≤ knots - 1) : tieB knots ((is.length : Int) + 1) (tie nm is) = true := by
  show (decide (((D.str nm :: is.map D.int).length : Int) = (is.length : Int) + 1) && (isNm (.str nm) && areWh (.tup (is.map D.int)) 0 (knots - 1))) = true
  rw [Bool.and_eq_true, Bool.and_eq_true, decide_eq_true_eq]
  refine ⟨by rw [List.length_cons, List.length_map]; omega, hn, ?_⟩
  show (is.map D.int).all (fun x => isWh x 0 (knots - 1)) = true
  rw [List.all_map, List.all_eq_true]
  intro i hi'
  obtain ⟨a, b⟩ := hi i hi'
  simp [isWh, a, b]
theorem cmp_ties {knots size : Int} {xs : List D} (h : (xs.all fun x => tieB knots size x) = true) : cmpL xs := cmpL_of fun x hx y hy => by
  obtain ⟨n1, is, rfl, _⟩ := tieB_tie (List.all_eq_true.mp h x hx)
  obtain ⟨n2, js, rfl, _⟩ := tieB_tie (List.all_eq_true.mp h y hy)
  exact cmpP_tie n1 n2 is js
theorem TiesOk.b {knots most : Int} {n : Nat} {xs : List D} (ok : TiesOk knots n xs) (hl : (xs.length : Int) ≤ most) : tiesB knots (n + 1 : Nat) most (.tup xs) = true := by
  show (decide ((xs.length : Int) ≤ most) && ((xs.all fun x => tieB knots (n + 1 : Nat) x) && risB xs)) = true
  rw [Bool.and_eq_true, Bool.and_eq_true, decide_eq_true_eq]
  refine ⟨hl, List.all_eq_true.mpr fun x hx => ?_, ok.rise⟩
  obtain ⟨nm, is, rfl, hi, hn, hr⟩ := ok.each x hx
  subst hi
  exact tie_tieB hn hr
theorem TiesOk.of {knots most : Int} {n : Nat} {xs : List D} (h : tiesB knots (n + 1 : Nat) most (.tup xs) = true) : TiesOk knots n xs ∧ (xs.length : Int) ≤ most := by
  have h : (decide ((xs.length : Int) ≤ most) && ((xs.all fun x => tieB knots (n + 1 : Nat) x) && risB xs)) = true := h
  rw [Bool.and_eq_true, Bool.and_eq_true, decide_eq_true_eq] at h
  refine ⟨⟨fun x hx => ?_, h.2.2⟩, h.1⟩
  obtain ⟨nm, is, e, hl, hn, hi⟩ := tieB_tie (List.all_eq_true.mp h.2.1 x hx)
  exact ⟨nm, is, e, by omega, hn, hi⟩
theorem TiesOk.k {knots : Int} {n : Nat} {xs : List D} {M : Mp} (ok : TiesOk knots n xs) : ∀ x ∈ xs, TieK M x := fun x hx => by
  obtain ⟨nm, is, rfl, hi, hn, hr⟩ := ok.each x hx
  refine ⟨⟨kn_tup, fun ys e y hy => ?_⟩, fun ys e z hz => ?_⟩
  · cases e
    rcases List.mem_cons.mp hy with rfl | hy
    · exact kn_str
    · obtain ⟨i, _, rfl⟩ := List.mem_map.mp hy
      exact kn_int
  · cases e
    rcases List.mem_cons.mp hz with e | hz
    · cases e; exact nameS_len hn
    · obtain ⟨i, _, e⟩ := List.mem_map.mp hz
      cases e
def S_are_ties (_ : Cs) : Spec := fun ds M Q => ∃ d knots size most, ds = [d, .int knots, .int size, .int most] ∧ 1 ≤ size ∧ kn d M ∧ (∀ xs, d = .tup xs → ∀ x ∈ xs, TieK M x) ∧ ∀ M', Keep M M' → Q (.bl (tiesB knots size most d)) M'
abbrev N_are_ties : List Str := ["thing", "knots", "size", "most", "tie"]
def ir_are_ties (c : Cs) : Ss := (.cons (.ife (.bop .Or (.cons (.not_ (.isa (.var 0) (.bty "tuple") (isaB c "tuple"))) (.cons (.cmp .Gt (.bcall .len (.cons (.var 0) .nil)) (.var 3)) .nil))) (.cons (.ret (.bl false)) .nil) .nil) (.cons (.for_ (.name 4) (.seq (.var 0)) (.cons (.ife (.bop .Or (.cons (.not_ (.isa (.var 4) (.bty "tuple") (isaB c "tuple"))) (.cons (.cmp .NotEq (.bcall .len (.cons (.var 4) .nil)) (.var 2)) (.cons (.not_ (.call "is_name" (S_is_name c) (.cons (.idx (.var 4) (.int 0)) .nil))) .nil)))) (.cons (.ret (.bl false)) .nil) .nil) (.cons (.ife (.not_ (.call "are_whole" (S_are_whole c) (.cons (.slc (.var 4) (.some (.int 1)) .none) (.cons (.int 0) (.cons (.bin .Sub (.var 1) (.int 1)) .nil))))) (.cons (.ret (.bl false)) .nil) .nil) .nil))) (.cons (.ret (.call "are_rising" (S_are_rising c) (.cons (.var 0) .nil))) .nil)))
theorem wp_are_ties (c : Cs) {d : D} {knots size most : Int} {M : Mp} {Q : DQ} (hz : sz d) (h1 : 1 ≤ size) (hk : kn d M) (ht : ∀ xs, d = .tup xs → ∀ x ∈ xs, TieK M x) (h : ∀ M', Keep M M' → Q (.bl (tiesB knots size most d)) M') :
    (ir_are_ties c).wp (bodyEnds Q) [some d, some (.int knots), some (.int size), some (.int most), none] M := by
  simp only [wW, ir_are_ties]
  cases d with
  | ty n => exact (kn_ty hk).elim
  | ref a => exact ⟨false, isaB_ref hk (by decide) (by decide), by simpa [tiesB] using h M (.refl M)⟩
  | tup xs =>
    have hz' := (sz_tup hz).1
    refine ⟨true, rfl, ?_⟩
    simp only [Bool.not_true, Bool.false_eq_true, if_false]
    refine len_t (ord_int ⟨_, rfl, ?_⟩)
    have eB : tiesB knots size most (.tup xs) = (decide ((xs.length : Int) ≤ most) && ((xs.all fun x => tieB knots size x) && risB xs)) := rfl
    by_cases hm : most < (xs.length : Int)
    · rw [if_pos (decide_eq_true hm)]
      have := h M (.refl M)
      rwa [eB, decide_eq_false (by omega), Bool.false_and] at this
    rw [if_neg (by simp; omega)]
    rw [decide_eq_true (by omega : (xs.length : Int) ≤ most), Bool.true_and] at eB
    have bad : ∀ x ∈ xs, tieB knots size x = false → ∀ M', Keep M M' → Q (.bl false) M' := fun x hx e M' k' => by
      have := h M' k'
      rwa [eB, show (xs.all fun x => tieB knots size x) = false from List.all_eq_false.mpr ⟨x, hx, by rw [e]; exact Bool.false_ne_true⟩, Bool.false_and] at this
    refine ⟨_, seqT_t, ?_⟩
    refine forGo_inv (T := ⟨xs, fun _ => True⟩) (fun done ρ M' => Keep M M' ∧ (∀ x ∈ done, tieB knots size x = true) ∧ ∃ v, ρ = [some (.tup xs), some (.int knots), some (.int size), some (.int most), v]) (fun _ _ _ _ => trivial) xs [] _ M ⟨.refl M, (fun _ h => nomatch h), none, rfl⟩ (fun x hx done ρ M1 k hJ hk => ?_) fun ρ M1 hJ => ?_
    · obtain ⟨k1, hd, v, rfl⟩ := hJ
      have tk := (ht xs rfl x hx).keep k1
      refine ⟨_, rfl, ?_⟩
      simp only [wW]
      have ok : tieB knots size x = true → k [some (.tup xs), some (.int knots), some (.int size), some (.int most), some x] M1 := fun e => hk _ M1 ⟨k1, fun y hy => by
        rcases List.mem_append.mp hy with hy | hy
        · exact hd y hy
        · rw [List.mem_singleton.mp hy]; exact e, _, rfl⟩
      cases x with
      | ty n => exact (kn_ty tk.kn.1).elim
      | ref a => exact ⟨false, isaB_ref tk.kn.1 (by decide) (by decide), by simpa using bad _ hx rfl M1 k1⟩
      | tup ys =>
        refine ⟨true, rfl, ?_⟩
        simp only [Bool.not_true, Bool.false_eq_true, if_false]
        refine len_t (eq_int ⟨_, rfl, ?_⟩)
        by_cases hs : (ys.length : Int) = size
        rotate_left
        · simp only [decide_eq_false hs, Bool.not_false, if_true]
          refine bad _ hx ?_ M1 k1
          cases ys with
          | nil => rfl
          | cons y r => show (decide _ && _) = false; rw [decide_eq_false hs, Bool.false_and]
        simp only [decide_eq_true hs, Bool.not_true, Bool.false_eq_true, if_false, if_true]
        cases ys with
        | nil => simp at hs; omega
        | cons y r =>
          have eT : tieB knots size (.tup (y :: r)) = (isNm y && areWh (.tup r) 0 (knots - 1)) := by
            show (decide _ && _) = _
            rw [decide_eq_true hs, Bool.true_and]
          refine ix_t 0 rfl ⟨_, rfl, tk.kn.2 _ rfl y (by simp), fun z e => tk.st _ rfl z (by rw [e]; simp), fun M2 h2 => ?_⟩
          cases hn : isNm y with
          | false =>
            simp only [wW, Bool.not_false]
            exact bad _ hx (by rw [eT, hn, Bool.false_and]) M2 (k1.trans h2)
          | true =>
            simp only [wW, Bool.not_true]
            refine slD_t (cut_one _) ⟨knots, 1, rfl, rfl, trivial, _, 0, knots - 1, rfl, ⟨kn_tup, fun ys ey y' hy => ?_⟩, fun M3 h3 => ?_⟩
            · cases ey
              exact (tk.kn.2 _ rfl y' (List.mem_cons_of_mem _ hy)).keep h2
            · show _
              cases hw : areWh (.tup (List.drop 1 (y :: r))) 0 (knots - 1) with
              | false =>
                simp only [wW, Bool.not_false]
                exact bad _ hx (by rw [eT, show areWh (.tup r) 0 (knots - 1) = false from hw, Bool.and_false]) M3 (k1.trans (h2.trans h3))
              | true =>
                simp only [wW, Bool.not_true]
                exact hk _ M3 ⟨k1.trans (h2.trans h3), fun y' hy => by
                  rcases List.mem_append.mp hy with hy | hy
                  · exact hd y' hy
                  · rw [List.mem_singleton.mp hy, eT, hn, show areWh (.tup r) 0 (knots - 1) = true from hw]; rfl, _, rfl⟩
      | _ => exact ⟨false, rfl, by simpa using bad _ hx rfl M1 k1⟩
    · obtain ⟨k1, hd, v, rfl⟩ := hJ
      have hall : (xs.all fun x => tieB knots size x) = true := List.all_eq_true.mpr fun x hx => hd x (by simpa using hx)
      simp only [wW]
      refine ⟨_, xs, rfl, .inl rfl, cmp_ties hall, fun M2 h2 => ?_⟩
      have := h M2 (k1.trans h2)
      rwa [eB, hall, Bool.true_and] at this
  | _ => exact ⟨false, rfl, by simpa [tiesB] using h M (.refl M)⟩
def lay (d : D) : Prop := (py d).canLay0 = true
theorem lays_of : ∀ {ds : List D}, (∀ d ∈ ds, lay d) → PyData.canLayAll0 (pys ds) = true
  | [], _ => by unfold pys PyData.canLayAll0; rfl
  | d :: ds, h => by
    unfold pys PyData.canLayAll0
    rw [h d List.mem_cons_self, lays_of fun e he => h e (List.mem_cons_of_mem _ he)]; rfl
theorem lay_tup {ds : List D} (h : ∀ d ∈ ds, lay d) : lay (.tup ds) := by
  unfold lay py PyData.canLay0
  exact lays_of h
theorem lay_int (i : Int) : lay (.int i) := by unfold lay py PyData.canLay0; rfl
theorem lay_name {x : Str} (h : nameS x = true) : lay (.str x) := by
  unfold lay py PyData.canLay0 PyData.strOk
  unfold nameS at h
  rw [Bool.and_eq_true] at h
  have h2 := List.all_eq_true.mp h.2
  rw [← Array.all_toList, List.all_eq_true]
  intro c hc
  have h3 := h2 c hc
  unfold isLetter at h3
  rw [Bool.and_eq_true] at h3
  have a := of_decide_eq_true h3.1
  have b := of_decide_eq_true h3.2
  simp
  omega
theorem deps_le {n : Nat} : ∀ {ds : List D}, (∀ d ∈ ds, (py d).depth ≤ n) → PyData.depthAll (pys ds) ≤ n
  | [], _ => by simp [pys, PyData.depthAll]
  | d :: ds, h => by
    have h1 := h d List.mem_cons_self
    have h2 := deps_le (ds := ds) fun e he => h e (List.mem_cons_of_mem _ he)
    simp [pys, PyData.depthAll]
    omega
theorem dep_le {n : Nat} {ds : List D} (h : ∀ d ∈ ds, (py d).depth ≤ n) : (py (.tup ds)).depth ≤ n + 1 := by
  have := deps_le h
  simp [py, PyData.depth]
  omega
theorem shaped_py {d : D} (hl : lay d) (h : (py d).depth ≤ 64) : SeqAt.shaped (py d) = true := by
  unfold SeqAt.shaped
  rw [show (py d).canLay0 = true from hl, decide_eq_true h]; rfl
theorem eq_self {neg : Bool} {d : D} {M : Mp} {Q : DQ} (hp : plain d = true) (hl : lay d) (hd : (py d).depth ≤ 64) (h : Q (.bl (!neg)) M) : eqD neg d d M Q := by
  refine eq_plain hp hp (shaped_py hl hd) (shaped_py hl hd) ?_
  rw [SeqAt.eqv_refl _ hl]
  cases neg <;> exact h
def netF (k l b : D) : List (Str × D) := [("knots", k), ("links", l), ("labels", b)]
theorem put_knots {a : D} : putD ("knots" : Str) a ([] : List (Str × D)) = ([("knots", a)] : List (Str × D)) := rfl
theorem put_links {a b : D} : putD ("links" : Str) b ([("knots", a)] : List (Str × D)) = ([("knots", a), ("links", b)] : List (Str × D)) := by
  unfold putD
  rw [if_neg (by decide +kernel)]
  rfl
theorem put_labels {a b d : D} : putD ("labels" : Str) d ([("knots", a), ("links", b)] : List (Str × D)) = netF a b d := by
  unfold putD
  rw [if_neg (by decide +kernel)]
  unfold putD
  rw [if_neg (by decide +kernel)]
  rfl
theorem look_knots {k l b : D} : (netF k l b).lookup ("knots" : Str) = some k := by
  unfold netF; rw [List.lookup_cons]; rw [show (("knots" : Str) == ("knots" : Str)) = true by decide +kernel]
theorem look_links {k l b : D} : (netF k l b).lookup ("links" : Str) = some l := by
  unfold netF; rw [List.lookup_cons, show (("links" : Str) == ("knots" : Str)) = false by decide +kernel]
  show List.lookup _ _ = _
  rw [List.lookup_cons, show (("links" : Str) == ("links" : Str)) = true by decide +kernel]
theorem look_labels {k l b : D} : (netF k l b).lookup ("labels" : Str) = some b := by
  unfold netF; rw [List.lookup_cons, show (("labels" : Str) == ("knots" : Str)) = false by decide +kernel]
  show List.lookup _ _ = _
  rw [List.lookup_cons, show (("labels" : Str) == ("links" : Str)) = false by decide +kernel]
  show List.lookup _ _ = _
  rw [List.lookup_cons, show (("labels" : Str) == ("labels" : Str)) = true by decide +kernel]
structure NetOk (knots : Int) (ls bs : List D) : Prop where
  k0 : 0 ≤ knots
  k1 : knots ≤ 60
  ll : ls.length ≤ 700
  bl : bs.length ≤ 400
  lk : TiesOk knots 2 ls
  lb : TiesOk knots 1 bs
def S_Net_init (c : Cs) : Spec := fun ds M Q => ∃ p knots ls bs, ds = [.ref p, .int knots, .tup ls, .tup bs] ∧ M p = some (.ins c.Net []) ∧ NetOk knots ls bs ∧
  ∀ M', (∀ a o, a ≠ p → M a = some o → M' a = some o) → M' p = some (.ins c.Net (netF (.int knots) (.tup ls) (.tup bs))) → Q .non M'
abbrev N_Net_init : List Str := ["self", "knots", "links", "labels"]
def ir_Net_init (c : Cs) : Ss := (.cons (.ife (.not_ (.call "is_whole" (S_is_whole c) (.cons (.var 1) (.cons (.int 0) (.cons (.glob "MOST_KNOTS" (.int 60)) .nil))))) (.cons .never .nil) .nil) (.cons (.ife (.not_ (.call "are_ties" (S_are_ties c) (.cons (.var 2) (.cons (.var 1) (.cons (.int 3) (.cons (.glob "MOST_LINKS" (.int 700)) .nil)))))) (.cons .never .nil) .nil) (.cons (.ife (.not_ (.call "are_ties" (S_are_ties c) (.cons (.var 3) (.cons (.var 1) (.cons (.int 2) (.cons (.glob "MOST_LABELS" (.int 400)) .nil)))))) (.cons .never .nil) .nil) (.cons (.fld (.var 0) c.Net "knots" (.var 1)) (.cons (.fld (.var 0) c.Net "links" (.var 2)) (.cons (.fld (.var 0) c.Net "labels" (.var 3)) .nil))))))
theorem wp_Net_init (c : Cs) {p : Addr} {knots : Int} {ls bs : List D} {M : Mp} {Q : DQ} (hp : M p = some (.ins c.Net [])) (ok : NetOk knots ls bs)
    (h : ∀ M', (∀ a o, a ≠ p → M a = some o → M' a = some o) → M' p = some (.ins c.Net (netF (.int knots) (.tup ls) (.tup bs))) → Q .non M') :
    (ir_Net_init c).wp (bodyEnds Q) [some (.ref p), some (.int knots), some (.tup ls), some (.tup bs)] M := by
  simp only [wW, ir_Net_init]
  refine ⟨_, 0, 60, rfl, kn_int, ?_⟩
  have e1 : isWh (.int knots) 0 60 = true := by simp [isWh, ok.k0, ok.k1]
  simp only [wW, e1, Bool.not_true]
  refine ⟨.tup ls, knots, 3, 700, rfl, by decide, kn_tup, fun xs e => by cases e; exact ok.lk.k, fun M1 k1 => ?_⟩
  rw [show tiesB knots 3 700 (.tup ls) = true from ok.lk.b (by have := ok.ll; omega)]
  simp only [wW, Bool.not_true]
  refine ⟨.tup bs, knots, 2, 400, rfl, by decide, kn_tup, fun xs e => by cases e; exact ok.lb.k, fun M2 k2 => ?_⟩
  rw [show tiesB knots 2 400 (.tup bs) = true from ok.lb.b (by have := ok.bl; omega)]
  simp only [wW, Bool.not_true]
  have hp2 : M2 p = some (.ins c.Net []) := k2 _ _ (k1 _ _ hp)
  refine ⟨_, hp2, by simp, _, up_same, by rw [put_knots]; simp, _, up_same, by rw [put_knots, put_links]; simp, ?_⟩
  rw [put_knots, put_links, put_labels]
  refine h _ (fun a o ha e => ?_) up_same
  rw [up_ne ha, up_ne ha, up_ne ha]
  exact k2 _ _ (k1 _ _ e)
def S_Net_len_ (c : Cs) : Spec := fun ds M Q => ∃ p knots l b, ds = [.ref p] ∧ M p = some (.ins c.Net (netF (.int knots) l b)) ∧ 0 ≤ knots ∧ knots ≤ 60 ∧ ∀ M', Keep M M' → Q (.int knots) M'
abbrev N_Net_len : List Str := ["self"]
def ir_Net_len (c : Cs) : Ss := (.cons (.ret (.bcall .len (.cons (.bin .Mult (.lst (.cons (.int 0) .nil)) (.fld (.var 0) c.Net "knots")) .nil))) .nil)
theorem rep_len {α : Type} (x : α) (n : Nat) : (List.replicate n [x]).flatten.length = n := by
  induction n with
  | zero => rfl
  | succ n ih => rw [List.replicate_succ, List.flatten_cons, List.length_append, ih]; simp; omega
theorem wp_Net_len (c : Cs) {p : Addr} {knots : Int} {l b : D} {M : Mp} {Q : DQ} (hp : M p = some (.ins c.Net (netF (.int knots) l b))) (k0 : 0 ≤ knots) (k1 : knots ≤ 60) (h : ∀ M', Keep M M' → Q (.int knots) M') : (ir_Net_len c).wp (bodyEnds Q) [some (.ref p)] M := by
  simp only [wW, ir_Net_len]
  refine ⟨by simp [sizeLine_eq], fun q hq => ?_⟩
  have hp' := Keep.new (o := .lst [D.int 0]) hq _ _ hp
  refine ⟨p, _, .int knots, rfl, hp', look_knots, ?_⟩
  refine ⟨_, up_same, k0, by omega, by rw [sizeLine_eq]; simp; omega, fun q2 hq2 => ?_⟩
  refine len_l up_same ?_
  rw [rep_len]
  rw [Int.toNat_of_nonneg k0]
  exact h _ ((Keep.new hq).trans (.new hq2))
theorem dep_tie (nm : Str) (is : List Int) : (py (tie nm is)).depth ≤ 2 := dep_le (n := 1) fun d hd => by
  rcases List.mem_cons.mp hd with rfl | hd
  · simp [py, PyData.depth]
  · obtain ⟨i, _, rfl⟩ := List.mem_map.mp hd
    simp [py, PyData.depth]
theorem plains_of : ∀ {ds : List D}, (∀ d ∈ ds, plain d = true) → plains ds = true
  | [], _ => rfl
  | d :: ds, h => by
    show (plain d && plains ds) = true
    rw [h d List.mem_cons_self, plains_of fun e he => h e (List.mem_cons_of_mem _ he)]; rfl
def netT (knots : Int) (ls bs : List D) : D := .tup [.int knots, .tup ls, .tup bs]
end DL
namespace DL
open PySem L2
theorem forGo_pos {T : DIt} {g : Tg} {wb : WS} {D0 : DEnds} (J : List D → Ro → Mp → Prop) (keep : ∀ done ρ M, J done ρ M → T.keep M) : ∀ (todo done : List D) (ρ : Ro) (M : Mp), J done ρ M →
    (∀ x pre post, todo = pre ++ x :: post → ∀ ρ M (k : Ro → Mp → Prop), J (done ++ pre) ρ M → (∀ ρ' M', J (done ++ pre ++ [x]) ρ' M' → k ρ' M') → ∃ ρ1, g.asn x ρ = some ρ1 ∧ wb { D0 with nx := k, ct := k, bk := D0.nx } ρ1 M) →
    (∀ ρ M, J (done ++ todo) ρ M → D0.nx ρ M) → forGo T g wb D0 todo ρ M
  | [], done, ρ, M, h, _, hf => by
    unfold forGo
    exact ⟨keep _ _ _ h, hf ρ M (by rw [List.append_nil]; exact h)⟩
  | x :: xs, done, ρ, M, h, hs, hf => by
    unfold forGo
    refine ⟨keep _ _ _ h, hs x [] xs rfl ρ M (forGo T g wb D0 xs) (by rw [List.append_nil]; exact h) fun ρ' M' h' => ?_⟩
    rw [List.append_nil] at h'
    refine forGo_pos J keep xs (done ++ [x]) ρ' M' h' (fun y pre post e => ?_) fun ρ M h => hf ρ M (by rw [List.append_assoc] at h; exact h)
    have := hs y (x :: pre) post (by rw [e]; rfl)
    simpa [List.append_assoc] using this
def numsD (xs : List D) : Prop := ∀ x ∈ xs, ∃ i, x = .int i
theorem rng_nums (n : Int) : numsD (rngI 0 n) := fun x hx => by
  unfold rngI at hx
  obtain ⟨i, _, rfl⟩ := List.mem_map.mp hx
  exact ⟨_, rfl⟩
theorem rng_len (n : Int) : (rngI 0 n).length = n.toNat := by unfold rngI; simp
theorem mem_sort {x : D} {xs : List D} : x ∈ sortD xs ↔ x ∈ xs := by
  unfold sortD
  exact List.mem_mergeSort
theorem len_sort (xs : List D) : (sortD xs).length = xs.length := by
  unfold sortD
  exact List.length_mergeSort _
end DL
namespace DL
open PySem L2
end DL
namespace DL
open PySem L2
theorem add_ii {i j : Int} {M : Mp} {Q : DQ} : addD (.int i) (.int j) M Q = Q (.int (i + j)) M := rfl
theorem add_ss {a b : Str} {M : Mp} {Q : DQ} : addD (.str a) (.str b) M Q = (a.length + b.length ≤ sizeLine ∧ Q (.str (a ++ b)) M) := rfl
theorem add_tt {a b : List D} {M : Mp} {Q : DQ} : addD (.tup a) (.tup b) M Q = (a.length + b.length ≤ sizeLine ∧ Q (.tup (a ++ b)) M) := rfl
theorem mul_ii {i j : Int} {M : Mp} {Q : DQ} : mulD (.int i) (.int j) M Q = (CMul i j ∧ Q (.int (i * j)) M) := rfl
theorem int_ii {C : Int → Int → Prop} {f : Int → Int → Int} {i j : Int} {M : Mp} {Q : DQ} : intD C f (.int i) (.int j) M Q = (C i j ∧ Q (.int (f i j)) M) := propext ⟨by rintro ⟨a, b, e1, e2, h⟩; cases e1; cases e2; exact h, fun h => ⟨i, j, rfl, rfl, h⟩⟩
theorem abs_i {i : Int} {M : Mp} {Q : DQ} : absS [.int i] M Q = Q (.int (if i < 0 then -i else i)) M := propext ⟨by rintro ⟨a, e1, h⟩; cases e1; exact h, fun h => ⟨i, rfl, h⟩⟩
theorem int_i {i : Int} {M : Mp} {Q : DQ} : intS [.int i] M Q = Q (.int i) M := propext ⟨by rintro (⟨a, e1, h⟩ | ⟨a, e1, h⟩) <;> cases e1; exact h, fun h => .inl ⟨i, rfl, h⟩⟩
theorem int_b {i : Bool} {M : Mp} {Q : DQ} : intS [.bl i] M Q = Q (.int (if i then 1 else 0)) M := propext ⟨by rintro (⟨a, e1, h⟩ | ⟨a, e1, h⟩) <;> cases e1; exact h, fun h => .inr ⟨i, rfl, h⟩⟩
theorem eq_ii {neg : Bool} {i j : Int} {M : Mp} {Q : DQ} : eqD neg (.int i) (.int j) M Q = Q (.bl (if neg then !decide (i = j) else decide (i = j))) M := propext ⟨by
  rintro (⟨p, q, h1, h2, _, _, h⟩ | ⟨a, b, e1, _⟩)
  · cases h1
    cases h2
    rw [eqv_int] at h
    exact h
  · exact absurd e1 (by simp), eq_int⟩
theorem eqv_str (i j : Str) : PyData.eqv (.str i) (.str j) = decide (i = j) := by
  simp only [PyData.eqv]
  by_cases h : i = j
  · simp [h]
  · simp [h]
theorem eq_ss {neg : Bool} {i j : Str} {M : Mp} {Q : DQ} : eqD neg (.str i) (.str j) M Q = Q (.bl (if neg then !decide (i = j) else decide (i = j))) M := propext ⟨by
  rintro (⟨p, q, h1, h2, _, _, h⟩ | ⟨a, b, e1, e2, h⟩)
  · cases h1
    cases h2
    rw [eqv_str] at h
    exact h
  · cases e1; cases e2; exact h, fun h => .inr ⟨i, j, rfl, rfl, h⟩⟩
theorem lt_ii {i j : Int} {M : Mp} {Q : DQ} : ordD .lt (.int i) (.int j) M Q = Q (.bl (decide (i < j))) M := propext ⟨by
  rintro (⟨a, b, e1, e2, h⟩ | ⟨p, q, h1, h2, _, _, _, h⟩)
  · cases e1; cases e2; exact h
  · cases h1; cases h2
    simp only [Ord.of, PySem.W.dataLt_int] at h
    exact h, fun h => ord_int (o := .lt) h⟩
theorem le_ii {i j : Int} {M : Mp} {Q : DQ} : ordD .le (.int i) (.int j) M Q = Q (.bl (decide (i ≤ j))) M := propext ⟨by
  rintro (⟨a, b, e1, e2, h⟩ | ⟨p, q, h1, h2, _, _, _, h⟩)
  · cases e1; cases e2; exact h
  · cases h1; cases h2
    have e : (!decide (j < i)) = decide (i ≤ j) := by by_cases z : j < i <;> simp [z] <;> omega
    simp only [Ord.of, PySem.W.dataLt_int, e] at h
    exact h, fun h => ord_int (o := .le) h⟩
theorem gt_ii {i j : Int} {M : Mp} {Q : DQ} : ordD .gt (.int i) (.int j) M Q = Q (.bl (decide (j < i))) M := propext ⟨by
  rintro (⟨a, b, e1, e2, h⟩ | ⟨p, q, h1, h2, _, _, _, h⟩)
  · cases e1; cases e2; exact h
  · cases h1; cases h2
    simp only [Ord.of, PySem.W.dataLt_int] at h
    exact h, fun h => ord_int (o := .gt) h⟩
theorem ge_ii {i j : Int} {M : Mp} {Q : DQ} : ordD .ge (.int i) (.int j) M Q = Q (.bl (decide (j ≤ i))) M := propext ⟨by
  rintro (⟨a, b, e1, e2, h⟩ | ⟨p, q, h1, h2, _, _, _, h⟩)
  · cases e1; cases e2; exact h
  · cases h1; cases h2
    have e : (!decide (i < j)) = decide (j ≤ i) := by by_cases z : i < j <;> simp [z] <;> omega
    simp only [Ord.of, PySem.W.dataLt_int, e] at h
    exact h, fun h => ord_int (o := .ge) h⟩
theorem ix_tup {ds : List D} {n : Nat} {d : D} {M : Mp} {Q : DQ} (h : ds[n]? = some d) : ixD (.tup ds) (.int (n : Int)) M Q = Q d M := propext ⟨by
  rintro (⟨xs, i, x, e1, e2, e3, q⟩ | ⟨_, _, _, e1, _⟩ | ⟨_, _, _, _, e1, _⟩)
  · rcases e1 with e1 | ⟨a, e1, _⟩
    · cases e1; cases e2
      rw [atI_nat h] at e3
      cases e3
      exact q
    · cases e1
  · exact absurd e1 (by simp)
  · exact absurd e1 (by simp), ix_t n h⟩
theorem ix_0 {x : D} {ds : List D} {M : Mp} {Q : DQ} : ixD (.tup (x :: ds)) (.int 0) M Q = Q x M := ix_tup (n := 0) rfl
theorem ix_1 {x y : D} {ds : List D} {M : Mp} {Q : DQ} : ixD (.tup (x :: y :: ds)) (.int 1) M Q = Q y M := ix_tup (n := 1) rfl
theorem ix_2 {x y z : D} {ds : List D} {M : Mp} {Q : DQ} : ixD (.tup (x :: y :: z :: ds)) (.int 2) M Q = Q z M := ix_tup (n := 2) rfl
theorem len_tt {ds : List D} {M : Mp} {Q : DQ} : lenS [.tup ds] M Q = Q (.int ds.length) M := propext ⟨by
  rintro ⟨d, n, e1, e2, q⟩
  cases e1
  have e2 : n = ds.length := e2
  subst e2
  exact q, len_t⟩
theorem tup_n {p : Addr} {xs : List D} {M : Mp} {Q : DQ} : tupleS [.ref p] (up M p (.lst xs)) Q = Q (.tup xs) (up M p (.lst xs)) := propext ⟨by
  rintro ⟨d, ys, e1, e2, q⟩
  cases e1
  rcases e2 with e2 | ⟨a, e2, e3⟩
  · cases e2
  · cases e2
    rw [up_same] at e3
    cases e3
    exact q, tuple_new⟩
end DL
namespace DL
open PySem L2
theorem piled_le {n : Nat} : ∀ {ts : List Str}, (∀ t ∈ ts, t.length ≤ n) → piled ts ≤ ts.length * (n + 2)
  | [], _ => by simp [piled]
  | t :: ts, h => by
    have h1 := h t List.mem_cons_self
    have h2 := piled_le (ts := ts) fun x hx => h x (List.mem_cons_of_mem _ hx)
    have e : piled (t :: ts) = (t.length + 2) + piled ts := by simp [piled]
    rw [e, List.length_cons, Nat.add_mul]
    omega
theorem tupleText_le {n : Nat} {ts : List Str} (h : ∀ t ∈ ts, t.length ≤ n) : (tupleText ts).length ≤ ts.length * (n + 2) + 3 := by
  unfold tupleText
  rw [strLen_append, strLen_append]
  have e1 : (("(" : String) : Str).length = 1 := rfl
  have e2 : ((if ts.length == 1 then ",)" else ")" : String) : Str).length ≤ 2 := by
    split
    · exact Nat.le_refl 2
    · exact (by decide : (1 : Nat) ≤ 2)
  have e3 : (Str.join ", " ts).length ≤ ts.length * (n + 2) := by
    cases ts with
    | nil => simp [Str.join]; rfl
    | cons t ts =>
      have := join_length_add (t :: ts) (by simp)
      have := piled_le h
      omega
  rw [e1]
  omega
theorem shownAll_map : ∀ ds : List D, PyData.shownAll (pys ds) = ds.map fun d => (py d).shown
  | [] => by simp [pys, PyData.shownAll]
  | d :: ds => by simp [pys, PyData.shownAll, shownAll_map ds]
theorem shown_tup {n : Nat} {ds : List D} (h : ∀ d ∈ ds, (py d).shown.length ≤ n) : (py (.tup ds)).shown.length ≤ ds.length * (n + 2) + 3 := by
  have e : (py (.tup ds)).shown = tupleText (ds.map fun d => (py d).shown) := by simp only [py, PyData.shown, shownAll_map]
  rw [e]
  have := tupleText_le (n := n) (ts := ds.map fun d => (py d).shown) fun t ht => by
    obtain ⟨d, hd, rfl⟩ := List.mem_map.mp ht
    exact h d hd
  rwa [List.length_map] at this
theorem shown_int {i : Int} {k : Nat} (hk : 0 < k) (h : i.natAbs < 10 ^ k) : (py (.int i)).shown.length ≤ k + 1 := by
  have e : (py (.int i)).shown = Str.ofString (toString i) := by simp only [py, PyData.shown]
  rw [e]
  have := int_text_length_le10 hk h
  rw [ofString_length]
  exact this
theorem shown_name {x : Str} (h : nameS x = true) : (py (.str x)).shown.length ≤ 62 := by
  have e : (py (.str x)).shown = reprText x := by simp only [py, PyData.shown]
  rw [e]
  unfold nameS at h
  rw [Bool.and_eq_true, Bool.and_eq_true] at h
  obtain ⟨⟨_, h2⟩, h3⟩ := h
  have h2 := of_decide_eq_true h2
  refine Nat.le_trans (StrLaws.reprText_len x fun c hc => ?_) (by omega)
  have := List.all_eq_true.mp h3 c hc
  unfold isLetter at this
  rw [Bool.and_eq_true] at this
  have := of_decide_eq_true this.2
  exact Nat.lt_of_le_of_lt this (by decide)
theorem showable_all : ∀ {ds : List D}, (∀ d ∈ ds, (py d).showable = true) → PyData.showableAll (pys ds) = true
  | [], _ => by simp [pys, PyData.showableAll]
  | d :: ds, h => by
    simp only [pys, PyData.showableAll, Bool.and_eq_true]
    exact ⟨h d List.mem_cons_self, showable_all fun x hx => h x (List.mem_cons_of_mem _ hx)⟩
theorem showable_tup {ds : List D} (h : ∀ d ∈ ds, (py d).showable = true) : (py (.tup ds)).showable = true := by
  simp only [py, PyData.showable]
  exact showable_all h
theorem showable_str (x : Str) : (py (.str x)).showable = true := by simp only [py, PyData.showable]
theorem showable_int {i : Int} (h : i.natAbs < 2 ^ 64) : (py (.int i)).showable = true := by
  simp only [py, PyData.showable, decide_eq_true_eq]
  rcases Nat.eq_zero_or_pos i.natAbs with e | e
  · rw [e]; decide
  · have := (Nat.log2_lt (by omega)).mpr h
    omega
end DL
namespace DL
open PySem L2
def S_l_take (_ : Cs) : Spec := fun ds M Q => ∃ p upto, ds = [.ref p, .int upto] ∧ M p = some .pot ∧ 0 < upto ∧ upto ≤ 1000000 ∧ ∀ r, 0 ≤ r → r < upto → Q (.int r) M
def S_l_of (_ : Cs) : Spec := fun ds M Q => ∃ p q xs, ds = [.ref p, .ref q] ∧ M p = some .pot ∧ M q = some (.lst xs) ∧ xs ≠ [] ∧ xs.length ≤ 1000000 ∧ ∀ x ∈ xs, Q x M
abbrev N_l_of : List Str := ["_law_pot_here", "_law_some"]
def ir_l_of (c : Cs) : Ss := (.cons (.ret (.idx (.var 1) (.call "_law_take" (S_l_take c) (.cons (.var 0) (.cons (.bcall .len (.cons (.var 1) .nil)) .nil))))) .nil)
theorem wp_l_of (c : Cs) {p q : Addr} {xs : List D} {M : Mp} {Q : DQ} (hp : M p = some .pot) (hq : M q = some (.lst xs)) (hx : xs ≠ []) (hz : xs.length ≤ 1000000) (h : ∀ x ∈ xs, Q x M) : (ir_l_of c).wp (bodyEnds Q) [some (.ref p), some (.ref q)] M := by
  simp only [wW, ir_l_of]
  refine len_l hq ⟨p, _, rfl, hp, ?_, by omega, fun r r0 r1 => ?_⟩
  · have : 0 < xs.length := List.length_pos_iff.mpr hx
    omega
  · obtain ⟨n, rfl⟩ := Int.eq_ofNat_of_zero_le r0
    have hn : n < xs.length := by omega
    exact ix_l n hq (List.getElem?_eq_getElem hn) (h _ (List.getElem_mem hn))
def prD (i j : Nat) : D := .tup [.int i, .int j]
def allPr (s : Nat) : List D := (List.range (s * s)).map fun a => prD (a / s) (a % s)
def S_l_all_pairs (_ : Cs) : Spec := fun ds M Q => ∃ s : Nat, ds = [.int s] ∧ 0 < s ∧ s ≤ 4 ∧ ∀ M' p, Keep M M' → M' p = some (.lst (allPr s)) → Q (.ref p) M'
abbrev N_l_all_pairs : List Str := ["_law_size", "_law_at"]
def ir_l_all_pairs (c : Cs) : Ss := (.cons (.ret (.lc [("_law_at", 1)] (.name 1) (.r1 (.bin .Mult (.var 0) (.var 0))) .none (.tup (.cons (.bin .FloorDiv (.var 1) (.var 0)) (.cons (.bin .Mod (.var 1) (.var 0)) .nil))))) .nil)
theorem wp_l_all_pairs (c : Cs) {s : Nat} {M : Mp} {Q : DQ} (h0 : 0 < s) (h4 : s ≤ 4) (h : ∀ M' p, Keep M M' → M' p = some (.lst (allPr s)) → Q (.ref p) M') : (ir_l_all_pairs c).wp (bodyEnds Q) [some (.int s), none] M := by
  have hs : s * s ≤ 16 := Nat.mul_le_mul h4 h4
  simp only [wW, ir_l_all_pairs]
  have hs' : (s : Int) * (s : Int) = ((s * s : Nat) : Int) := (Int.natCast_mul s s).symm
  refine ⟨.inl ⟨by omega, by omega⟩, _, rfl, by unfold small62; rw [hs']; omega, by rw [rng_len, hs', sizeLine_eq]; omega, ?_⟩
  refine lcGo_map (T := ⟨rngI 0 ((s : Int) * s), fun _ => True⟩) (M0 := M) (fun x => match x with | .int a => some (.tup [.int (a / s), .int (a % s)]) | _ => none) (fun _ _ => trivial) _ M (.refl _) (fun x hx acc M1 k k1 hk => ?_) fun M1 k1 p hp => ?_
  · obtain ⟨a, rfl⟩ := rng_nums _ x hx
    refine ⟨_, rfl, yes_if ?_⟩
    simp only [wW]
    refine ⟨a, s, rfl, rfl, ⟨by omega, by omega⟩, a, s, rfl, rfl, by omega, by simp [sizeLine_eq], ?_⟩
    exact hk M1 k1
  · refine h _ p (k1.trans (.new hp)) ?_
    rw [up_same]
    congr 2
    unfold rngI allPr
    rw [hs', Int.sub_zero, Int.toNat_natCast, List.filterMap_map, ← List.filterMap_eq_map']
    congr 1
    funext a
    simp [prD]
abbrev N_l_take : List Str := ["_law_pot_here", "_law_upto", "_law_digit"]
def ir_l_take (c : Cs) : Ss := (.cons (.ife (.cmp .Gt (.idx (.var 0) (.int 0)) (.int 0)) (.cons (.asg (.name 2) (.bin .Mod (.idx (.var 0) (.int 0)) (.var 1))) (.cons (.setI (.var 0) (.int 0) (.bin .FloorDiv (.idx (.var 0) (.int 0)) (.var 1))) (.cons (.ret (.var 2)) .nil))) .nil) (.cons (.setI (.var 0) (.int 1) (.bin .Mod (.bin .Add (.bin .Mult (.idx (.var 0) (.int 1)) (.int 1181783497276652981)) (.int 12345678910987)) (.int 2305843009213693951))) (.cons (.ret (.bin .Mod (.bin .FloorDiv (.bin .Mod (.bin .Mult (.bin .FloorDiv (.idx (.var 0) (.int 1)) (.int 65537)) (.bin .Add (.bin .Mod (.idx (.var 0) (.int 1)) (.int 65537)) (.int 3))) (.int 2305843009213693921)) (.int 97)) (.var 1))) .nil)))
theorem wp_l_take (c : Cs) {p : Addr} {upto g m : Int} {M : Mp} {Q : DQ} (h0 : 0 < upto) (h1 : upto ≤ 1000000) (ok : PotOk g m) (hp : M p = some (.lst [.int g, .int m]))
    (h : ∀ r g' m', 0 ≤ r → r < upto → PotOk g' m' → Q (.int r) (up M p (.lst [.int g', .int m']))) : (ir_l_take c).wp (bodyEnds Q) [some (.ref p), some (.int upto), none] M := by
  obtain ⟨g0, g1, m0, m1⟩ := ok
  simp only [wW, ir_l_take]
  refine ix_l 0 hp rfl (ord_int ⟨_, rfl, ?_⟩)
  by_cases hg : 0 < g
  · have e : decide ((0 : Int) < g) = true := decide_eq_true hg
    simp only [e, if_true]
    refine ix_l 0 hp rfl ⟨g, upto, rfl, rfl, h0, ?_⟩
    simp only [wW]
    refine ix_l 0 hp rfl ⟨g, upto, rfl, rfl, ⟨h0, by omega⟩, ?_⟩
    simp only [wW]
    refine ⟨_, hp, 0, rfl, ?_⟩
    refine h _ _ _ (Int.emod_nonneg _ (by omega)) (Int.emod_lt_of_pos _ h0) ⟨Int.ediv_nonneg g0 (by omega), Int.lt_of_le_of_lt (Int.ediv_le_self _ g0) g1, m0, m1⟩
  · have e : decide ((0 : Int) < g) = false := decide_eq_false hg
    simp only [e, Bool.false_eq_true, if_false]
    have hM : (0 : Int) < 2305843009213693951 := by decide
    have b0 := Int.emod_nonneg (m * 1181783497276652981 + 12345678910987) (b := 2305843009213693951) (by decide)
    have b1 := Int.emod_lt_of_pos (m * 1181783497276652981 + 12345678910987) hM
    refine ix_l 1 hp rfl ⟨.inr ⟨by decide, by decide⟩, _, _, rfl, rfl, hM, _, hp, 1, rfl, ?_⟩
    show ixD (D.ref p) (D.int 1) (up M p (MO.lst ([D.int g, D.int m].set 1 (D.int ((m * 1181783497276652981 + 12345678910987) % 2305843009213693951))))) _
    generalize (m * 1181783497276652981 + 12345678910987) % 2305843009213693951 = m' at b0 b1 ⊢
    have hp' : up M p (.lst ([D.int g, D.int m].set 1 (.int m'))) p = some (.lst [.int g, .int m']) := up_same
    have c0 := Int.emod_nonneg m' (b := 65537) (by decide)
    have c1 := Int.emod_lt_of_pos m' (show (0 : Int) < 65537 by decide)
    refine ix_l 1 hp' rfl ⟨m', 65537, rfl, rfl, ⟨by decide, by decide⟩, ix_l 1 hp' rfl ⟨m', 65537, rfl, rfl, show (0 : Int) < 65537 by decide, ?_⟩⟩
    refine ⟨.inr ⟨show -(2 ^ 64) < m' % 65537 + 3 by omega, show m' % 65537 + 3 < 2 ^ 64 by omega⟩, _, _, rfl, rfl, show (0 : Int) < 2305843009213693921 by decide, _, _, rfl, rfl, ⟨by decide, by decide⟩, _, _, rfl, rfl, h0, ?_⟩
    exact h _ _ _ (Int.emod_nonneg _ (by omega)) (Int.emod_lt_of_pos _ h0) ⟨g0, g1, b0, b1⟩
end DL
namespace DL
open PySem L2
theorem pair_ris : ∀ {xs : List D}, (xs.Pairwise fun x y => ltP x y = true) → risB xs = true
  | [], _ => rfl
  | [x], _ => rfl
  | x :: y :: r, h => by
    unfold risB
    rw [Bool.and_eq_true]
    rw [List.pairwise_cons] at h
    exact ⟨h.1 y List.mem_cons_self, pair_ris h.2⟩
theorem lt_pair (i j i' j' : Int) : ltP (.tup [.int i, .int j]) (.tup [.int i', .int j']) = decide (i < i' ∨ (i = i' ∧ j < j')) := by
  unfold ltP
  simp only [py, pys]
  exact PySem.W.dataLt_ii i j i' j'
structure PrsOk (s : Nat) (prs : List D) : Prop where
  each : ∀ x ∈ prs, isPr x 0 ((s : Int) - 1) = true
  rise : risB prs = true
  len : prs.length ≤ 16
theorem all_ris {s : Nat} (h : s ≤ 4) : (allPr s).Pairwise fun x y => ltP x y = true := by
  unfold allPr
  rw [List.pairwise_map]
  refine List.Pairwise.imp_of_mem ?_ (List.pairwise_lt_range (n := s * s))
  intro a b ha hb hab
  show ltP (prD _ _) (prD _ _) = true
  unfold prD
  rw [lt_pair, decide_eq_true_eq]
  have h1 : a / s ≤ b / s := Nat.div_le_div_right (Nat.le_of_lt hab)
  rcases Nat.lt_or_ge (a / s) (b / s) with h2 | h2
  · exact .inl (by omega)
  · refine .inr ⟨by omega, ?_⟩
    have e : a / s = b / s := Nat.le_antisymm h1 h2
    have ea := Nat.div_add_mod a s
    have eb := Nat.div_add_mod b s
    rw [e] at ea
    omega
theorem all_each {s : Nat} (h0 : 0 < s) : ∀ x ∈ allPr s, isPr x 0 ((s : Int) - 1) = true := fun x hx => by
  unfold allPr at hx
  obtain ⟨a, ha, rfl⟩ := List.mem_map.mp hx
  rw [List.mem_range] at ha
  have h1 : a / s < s := Nat.div_lt_of_lt_mul ha
  have h2 : a % s < s := Nat.mod_lt _ h0
  generalize a / s = u at h1
  generalize a % s = v at h2
  have e : ∀ z : Nat, z < s → isWh (.int (z : Int)) 0 ((s : Int) - 1) = true := fun z hz => by
    unfold isWh
    rw [Bool.and_eq_true]
    exact ⟨decide_eq_true (by omega), decide_eq_true (by omega)⟩
  show (isWh _ _ _ && isWh _ _ _) = true
  rw [e u h1, e v h2]
  rfl
theorem all_len (s : Nat) : (allPr s).length = s * s := by unfold allPr; simp
theorem PrsOk.sub {s : Nat} {prs : List D} (h0 : 0 < s) (h4 : s ≤ 4) (h : prs.Sublist (allPr s)) : PrsOk s prs := by
  refine ⟨fun x hx => all_each h0 x (h.subset hx), pair_ris ((all_ris h4).sublist h), ?_⟩
  have := h.length_le
  rw [all_len] at this
  exact Nat.le_trans this (Nat.mul_le_mul h4 h4)
def S_l_pairs (_ : Cs) : Spec := fun ds M Q => ∃ (p : Addr) (s : Nat), ds = [.ref p, .int s] ∧ M p = some .pot ∧ 0 < s ∧ s ≤ 4 ∧ ∀ M' prs, Keep M M' → PrsOk s prs → Q (.tup prs) M'
theorem lcGo_sub {T : DIt} {g : Tg} {wt : WT} {we : WE} {ρ : Ro} {fin : List D → Mp → Prop} {M0 : Mp} (keep : ∀ M, Keep M0 M → T.keep M) (todo : List D) (M : Mp) (hM : Keep M0 M)
    (hs : ∀ x ∈ todo, ∀ acc M (k : List D → Mp → Prop), Keep M0 M → (∀ M', Keep M0 M' → k (acc ++ [x]) M') → (∀ M', Keep M0 M' → k acc M') → ∃ ρ1, g.asn x ρ = some ρ1 ∧ wt ρ1 M fun b M1 => if b = true then we ρ1 M1 fun d M2 => k (acc ++ [d]) M2 else k acc M1)
    (hf : ∀ acc M, Keep M0 M → acc.Sublist todo → fin acc M) : lcGo T g wt we ρ fin todo [] M := by
  refine lcGo_inv (fun done acc M => acc.Sublist done ∧ Keep M0 M) (fun _ _ M h => keep M h.2) todo [] [] M ⟨.refl _, hM⟩ (fun x hx done acc M k h hk => ?_) (fun acc M h => hf acc M h.2 h.1)
  exact hs x hx acc M k h.2 (fun M' hM' => hk _ M' ⟨h.1.append (.refl _), hM'⟩) fun M' hM' => hk _ M' ⟨h.1.trans (List.sublist_append_left _ _), hM'⟩
def fstD : D → D
  | .tup (x :: _) => x
  | _ => .non
theorem rng_pair (n : Int) : (rngI 0 n).Pairwise fun x y => ∃ i j : Int, x = .int i ∧ y = .int j ∧ i < j := by
  unfold rngI
  rw [List.pairwise_map]
  exact (List.pairwise_lt_range (n := (n - 0).toNat)).imp fun {a b} h => ⟨_, _, rfl, rfl, by omega⟩
theorem rng_mem {n : Int} {x : D} (h : x ∈ rngI 0 n) : ∃ i : Int, x = .int i ∧ 0 ≤ i ∧ i < n := by
  unfold rngI at h
  obtain ⟨a, ha, rfl⟩ := List.mem_map.mp h
  rw [List.mem_range] at ha
  exact ⟨_, rfl, by omega, by omega⟩
theorem wh_of {i n : Int} (h0 : 0 ≤ i) (h1 : i < n) : isWh (.int i) 0 (n - 1) = true := by
  unfold isWh
  rw [Bool.and_eq_true]
  exact ⟨decide_eq_true h0, decide_eq_true (by omega)⟩
theorem PrsOk.by_first {s : Nat} {acc : List D} (h4 : s ≤ 4) (em : acc.map fstD = rngI 0 s) (ha : ∀ d ∈ acc, ∃ i r : Int, d = .tup [.int i, .int r] ∧ 0 ≤ r ∧ r < s) : PrsOk s acc := by
  refine ⟨fun x hx => ?_, pair_ris ?_, ?_⟩
  · obtain ⟨i, r, rfl, r0, r1⟩ := ha x hx
    obtain ⟨i', e, i0, i1⟩ := rng_mem (n := s) (x := .int i) (by rw [← em]; exact List.mem_map.mpr ⟨_, hx, rfl⟩)
    cases e
    show (isWh _ _ _ && isWh _ _ _) = true
    rw [wh_of i0 i1, wh_of r0 r1]
    rfl
  · have hp := rng_pair s
    rw [← em, List.pairwise_map] at hp
    refine hp.imp_of_mem fun {a b} h1 h2 hab => ?_
    obtain ⟨i, r, rfl, _⟩ := ha a h1
    obtain ⟨j, r', rfl, _⟩ := ha b h2
    obtain ⟨i', j', e1, e2, hlt⟩ := hab
    cases e1
    cases e2
    rw [lt_pair, decide_eq_true_eq]
    exact .inl hlt
  · have := congrArg List.length em
    rw [List.length_map, rng_len] at this
    omega
abbrev N_l_pairs : List Str := ["_law_pot_here", "_law_size", "_law_share", "_law_way", "_law_every", "_law_pair", "_law_mark"]
def ir_l_pairs (c : Cs) : Ss := (.cons (.asg (.tup (.cons (.name 3) (.cons (.name 4) .nil))) (.tup (.cons (.call "_law_take" (S_l_take c) (.cons (.var 0) (.cons (.int 8) .nil))) (.cons (.call "_law_all_pairs" (S_l_all_pairs c) (.cons (.var 1) .nil)) .nil)))) (.cons (.ife (.cmp .Eq (.var 3) (.int 0)) (.cons (.ret (.bcall .tuple (.cons (.lc [("_law_pair", 5)] (.name 5) (.seq (.var 4)) (.some (.cmp .LtE (.idx (.var 5) (.int 0)) (.idx (.var 5) (.int 1)))) (.var 5)) .nil))) .nil) .nil) (.cons (.ife (.cmp .Eq (.var 3) (.int 1)) (.cons (.ret (.bcall .tuple (.cons (.lc [("_law_pair", 5)] (.name 5) (.seq (.var 4)) (.some (.cmp .Eq (.bin .Add (.idx (.var 5) (.int 0)) (.int 1)) (.idx (.var 5) (.int 1)))) (.var 5)) .nil))) .nil) .nil) (.cons (.ife (.cmp .Eq (.var 3) (.int 2)) (.cons (.ret (.bcall .tuple (.cons (.lc [("_law_pair", 5)] (.name 5) (.seq (.var 4)) (.some (.cmp .NotEq (.idx (.var 5) (.int 0)) (.idx (.var 5) (.int 1)))) (.var 5)) .nil))) .nil) .nil) (.cons (.ife (.cmp .Eq (.var 3) (.int 3)) (.cons (.ret (.bcall .tuple (.cons (.lc [("_law_mark", 6)] (.name 6) (.r1 (.var 1)) .none (.tup (.cons (.var 6) (.cons (.call "_law_take" (S_l_take c) (.cons (.var 0) (.cons (.var 1) .nil))) .nil)))) .nil))) .nil) .nil) (.cons (.asg (.name 2) (.bin .Add (.int 2) (.call "_law_take" (S_l_take c) (.cons (.var 0) (.cons (.int 3) .nil))))) (.cons (.ret (.bcall .tuple (.cons (.lc [("_law_pair", 5)] (.name 5) (.seq (.var 4)) (.some (.bop .Or (.cons (.cmp .Eq (.call "_law_take" (S_l_take c) (.cons (.var 0) (.cons (.var 2) .nil))) (.int 0)) (.cons (.bop .And (.cons (.cmp .Eq (.var 3) (.int 4)) (.cons (.cmp .Eq (.idx (.var 5) (.int 0)) (.idx (.var 5) (.int 1))) .nil))) .nil)))) (.var 5)) .nil))) .nil)))))))
theorem wp_l_pairs (c : Cs) {p : Addr} {s : Nat} {M : Mp} {Q : DQ} (hp : M p = some .pot) (h0 : 0 < s) (h4 : s ≤ 4) (h : ∀ M' prs, Keep M M' → PrsOk s prs → Q (.tup prs) M') : (ir_l_pairs c).wp (bodyEnds Q) [some (.ref p), some (.int s), none, none, none, none, none] M := by
  have zA : (allPr s).length ≤ sizeLine := by rw [all_len, sizeLine_eq]; have : s * s ≤ 16 := Nat.mul_le_mul h4 h4; omega
  simp only [wW, ir_l_pairs]
  refine ⟨p, 8, rfl, hp, by decide, by decide, fun way w0 w1 => ?_⟩
  refine ⟨s, rfl, h0, h4, fun M1 e k1 he => ?_⟩
  have tupF : ∀ acc M2, Keep M1 M2 → acc.Sublist (allPr s) → ∀ q, M2 q = none → tupleS [.ref q] (up M2 q (.lst acc)) Q := fun acc M2 k2 hs q hq =>
    ⟨_, acc, rfl, .inr ⟨q, rfl, up_same⟩, h _ acc (k1.trans (k2.trans (.new hq))) (.sub h0 h4 hs)⟩
  have sub : ∀ (wt : WT) (v : Option D) (M2 : Mp), Keep M1 M2 → (∀ i j : Nat, prD i j ∈ allPr s → ∀ M3 (k : Bool → Mp → Prop), Keep M1 M3 → (∀ b M4, Keep M1 M4 → k b M4) → wt [some (.ref p), some (.int s), v, some (.int way), some (.ref e), some (prD i j), none] M3 k) →
      ∃ T, seqT M2 (.ref e) T ∧ T.items.length ≤ sizeLine ∧ lcGo T (Tg.name 5) wt (wVar 5) [some (.ref p), some (.int s), v, some (.int way), some (.ref e), none, none] (fun acc M2 => ∀ q, M2 q = none → tupleS [D.ref q] (up M2 q (MO.lst acc)) Q) T.items [] M2 := by
    intro wt v M2 k2 hw
    refine ⟨_, seqT_l (k2 _ _ he), zA, ?_⟩
    refine lcGo_sub (T := ⟨allPr s, fun M => M e = some (.lst (allPr s))⟩) (M0 := M1) (fun M3 k3 => k3 _ _ he) (allPr s) M2 k2 (fun x hx acc M3 k k3 y1 y2 => ?_) fun acc M3 k3 hs => tupF acc M3 k3 hs
    obtain ⟨a, ha, rfl⟩ := List.mem_map.mp hx
    refine ⟨_, rfl, ?_⟩
    refine hw _ _ hx M3 _ k3 fun b M4 k4 => ?_
    cases b with
    | true =>
      rw [if_pos rfl]
      exact ⟨_, rfl, y1 M4 k4⟩
    | false =>
      rw [if_neg Bool.false_ne_true]
      exact y2 M4 k4
  have ix0 : ∀ {i j : Nat} {M : Mp} {Q : DQ}, Q (.int i) M → ixD (prD i j) (.int 0) M Q := fun q => ix_t 0 rfl q
  have ix1 : ∀ {i j : Nat} {M : Mp} {Q : DQ}, Q (.int j) M → ixD (prD i j) (.int 1) M Q := fun q => ix_t 1 rfl q
  refine ⟨by simp [sizeLine_eq], eq_int ⟨_, rfl, ?_⟩⟩
  by_cases c0 : way = 0
  · subst c0
    simp only [decide_true, if_true, Bool.false_eq_true, if_false]
    refine sub _ none M1 (.refl _) fun i j hij M3 k k3 hk => ?_
    simp only [wW]
    exact ix0 (ix1 (ord_int ⟨_, rfl, hk _ M3 k3⟩))
  simp only [c0, decide_false, Bool.false_eq_true, if_false]
  refine eq_int ⟨_, rfl, ?_⟩
  by_cases c1 : way = 1
  · subst c1
    simp only [decide_true, if_true, Bool.false_eq_true, if_false]
    refine sub _ none M1 (.refl _) fun i j hij M3 k k3 hk => ?_
    simp only [wW]
    refine ix0 ?_
    simp only [addD]
    exact ix1 (eq_int ⟨_, rfl, hk _ M3 k3⟩)
  simp only [c1, decide_false, Bool.false_eq_true, if_false]
  refine eq_int ⟨_, rfl, ?_⟩
  by_cases c2 : way = 2
  · subst c2
    simp only [decide_true, if_true, Bool.false_eq_true, if_false]
    refine sub _ none M1 (.refl _) fun i j hij M3 k k3 hk => ?_
    simp only [wW]
    exact ix0 (ix1 (eq_int ⟨_, rfl, hk _ M3 k3⟩))
  simp only [c2, decide_false, Bool.false_eq_true, if_false]
  refine eq_int ⟨_, rfl, ?_⟩
  by_cases c3 : way = 3
  · subst c3
    simp only [decide_true, if_true, Bool.false_eq_true, if_false]
    refine ⟨by unfold small62; omega, by rw [rng_len, sizeLine_eq]; omega, ?_⟩
    refine lcGo_inv (T := ⟨rngI 0 s, fun _ => True⟩) (fun done acc M2 => Keep M1 M2 ∧ acc.map fstD = done ∧ ∀ d ∈ acc, ∃ i r : Int, d = .tup [.int i, .int r] ∧ 0 ≤ r ∧ r < s) (fun _ _ _ _ => trivial) _ [] [] M1 ⟨.refl _, rfl, fun d hd => by cases hd⟩ (fun x hx done acc M2 k hJ hk => ?_) fun acc M2 hJ q hq => ?_
    · obtain ⟨k2, em, ha⟩ := hJ
      obtain ⟨i, rfl⟩ := rng_nums _ x hx
      refine ⟨_, rfl, yes_if ?_⟩
      simp only [wW]
      refine ⟨p, s, rfl, k2 _ _ (k1 _ _ hp), by omega, by omega, fun r r0 r1 => ?_⟩
      refine ⟨by simp [sizeLine_eq], hk _ _ ⟨k2, ?_, fun d hd => ?_⟩⟩
      · rw [List.map_append, em]; rfl
      · rcases List.mem_append.mp hd with hd | hd
        · exact ha d hd
        · obtain rfl := List.mem_singleton.mp hd
          exact ⟨i, r, rfl, r0, r1⟩
    · obtain ⟨k2, em, ha⟩ := hJ
      rw [List.nil_append] at em
      refine ⟨_, acc, rfl, .inr ⟨q, rfl, up_same⟩, h _ acc (k1.trans (k2.trans (.new hq))) (.by_first h4 em ha)⟩
  simp only [c3, decide_false, Bool.false_eq_true, if_false]
  refine ⟨p, 3, rfl, k1 _ _ hp, by decide, by decide, fun r r0 r1 => ?_⟩
  show ∃ T, seqT M1 (.ref e) T ∧ _
  refine sub _ (some (.int (2 + r))) M1 (.refl _) fun i j hij M3 k k3 hk => ?_
  simp only [wW]
  refine ⟨p, 2 + r, rfl, k3 _ _ (k1 _ _ hp), by omega, by omega, fun u u0 u1 => eq_int ⟨_, rfl, ?_⟩⟩
  by_cases hu : u = 0
  · simp only [hu, decide_true, Bool.false_eq_true, if_false, if_true]
    exact hk _ M3 k3
  · simp only [hu, decide_false, Bool.false_eq_true, if_false]
    refine eq_int ⟨_, rfl, ?_⟩
    by_cases hw : way = 4
    · simp only [hw, decide_true, Bool.false_eq_true, if_false, if_true]
      exact ix0 (ix1 (eq_int ⟨_, rfl, hk _ M3 k3⟩))
    · simp only [hw, decide_false, Bool.false_eq_true, if_false]
      exact hk _ M3 k3
end DL
local macro_rules | `(tactic| simp only [wX]) => `(tactic| simp only [DL.Ss.wp, DL.S.wp, DL.E.wp, DL.E.wpT, DL.Es.wp, DL.Es.wpV, DL.Es.wpT, DL.Oe.wpO, DL.Oe.wpT, DL.Wk.wp, DL.wSeq, DL.wRet, DL.wRetN, DL.wNext, DL.wNever, DL.wDrop, DL.wAsg, DL.wIfS, DL.wFor, DL.wPar, DL.wPar3, DL.wParJ, DL.wParK, DL.wStarA, DL.wUpdX, DL.wFldS, DL.wParF, DL.wSetI, DL.wSetK, DL.wDnew, DL.wDlit, DL.wMeth, DL.wBm, DL.wIxX, DL.wZipL, DL.wZipLT, DL.wItemsL, DL.wAndV, DL.wOrV, DL.wNotV, DL.wAnd, DL.wOr, DL.wNot, DL.wIfB, DL.wTest, DL.wTru, DL.wIf, DL.w1, DL.w2, DL.w3, DL.wVar, DL.wC, DL.wNil, DL.wCons, DL.wTup, DL.wLst, DL.wCall, DL.wCallK, DL.wO0, DL.wO1, DL.wSl, DL.wStep, DL.wStepV, DL.wLc, DL.wSc, DL.wISeq, DL.wIR1, DL.wIR2, DL.wIZip, DL.wIMix, DL.wIStr, DL.wIEn, DL.wDc, DL.DcK.emp, DL.Wk.wp, DL.binF, DL.cmpF, DL.cmpYF, DL.isaD, DL.negD, DL.Blt.spec, DL.Bm.spec, DL.Bm.ty, List.getElem?_cons_zero, List.getElem?_cons_succ, Option.some.injEq, exists_eq_left', exists_eq_left, exists_and_left, List.set_cons_zero, List.set_cons_succ, DL.asn_name, DL.asn_tup, DL.asns_nil, DL.asns_name, DL.wipeD, DL.tru_bl, DL.tru_int, DL.tru_non, DL.tru_tup, DL.bodyEnds, List.map_cons, List.map_nil, ↓reduceIte, Bool.false_eq_true, and_true, true_and, DL.D.str.injEq, DL.D.int.injEq, DL.D.ref.injEq, DL.D.tup.injEq, DL.D.bl.injEq, DL.add_ii, DL.add_ss, DL.add_tt, DL.mul_ii, DL.int_ii, DL.abs_i, DL.int_i, DL.int_b, DL.eq_ii, DL.eq_ss, DL.lt_ii, DL.le_ii, DL.gt_ii, DL.ge_ii, DL.ix_0, DL.ix_1, DL.ix_2, DL.len_tt, DL.tup_n]) | `(tactic| simp only [wX, $ts,*]) => `(tactic| simp only [DL.Ss.wp, DL.S.wp, DL.E.wp, DL.E.wpT, DL.Es.wp, DL.Es.wpV, DL.Es.wpT, DL.Oe.wpO, DL.Oe.wpT, DL.Wk.wp, DL.wSeq, DL.wRet, DL.wRetN, DL.wNext, DL.wNever, DL.wDrop, DL.wAsg, DL.wIfS, DL.wFor, DL.wPar, DL.wPar3, DL.wParJ, DL.wParK, DL.wStarA, DL.wUpdX, DL.wFldS, DL.wParF, DL.wSetI, DL.wSetK, DL.wDnew, DL.wDlit, DL.wMeth, DL.wBm, DL.wIxX, DL.wZipL, DL.wZipLT, DL.wItemsL, DL.wAndV, DL.wOrV, DL.wNotV, DL.wAnd, DL.wOr, DL.wNot, DL.wIfB, DL.wTest, DL.wTru, DL.wIf, DL.w1, DL.w2, DL.w3, DL.wVar, DL.wC, DL.wNil, DL.wCons, DL.wTup, DL.wLst, DL.wCall, DL.wCallK, DL.wO0, DL.wO1, DL.wSl, DL.wStep, DL.wStepV, DL.wLc, DL.wSc, DL.wISeq, DL.wIR1, DL.wIR2, DL.wIZip, DL.wIMix, DL.wIStr, DL.wIEn, DL.wDc, DL.DcK.emp, DL.Wk.wp, DL.binF, DL.cmpF, DL.cmpYF, DL.isaD, DL.negD, DL.Blt.spec, DL.Bm.spec, DL.Bm.ty, List.getElem?_cons_zero, List.getElem?_cons_succ, Option.some.injEq, exists_eq_left', exists_eq_left, exists_and_left, List.set_cons_zero, List.set_cons_succ, DL.asn_name, DL.asn_tup, DL.asns_nil, DL.asns_name, DL.wipeD, DL.tru_bl, DL.tru_int, DL.tru_non, DL.tru_tup, DL.bodyEnds, List.map_cons, List.map_nil, ↓reduceIte, Bool.false_eq_true, and_true, true_and, DL.D.str.injEq, DL.D.int.injEq, DL.D.ref.injEq, DL.D.tup.injEq, DL.D.bl.injEq, DL.add_ii, DL.add_ss, DL.add_tt, DL.mul_ii, DL.int_ii, DL.abs_i, DL.int_i, DL.int_b, DL.eq_ii, DL.eq_ss, DL.lt_ii, DL.le_ii, DL.gt_ii, DL.ge_ii, DL.ix_0, DL.ix_1, DL.ix_2, DL.len_tt, DL.tup_n, $ts,*]) | `(tactic| simp only [wX, $ts,*] at $h:ident) => `(tactic| simp only [DL.Ss.wp, DL.S.wp, DL.E.wp, DL.E.wpT, DL.Es.wp, DL.Es.wpV, DL.Es.wpT, DL.Oe.wpO, DL.Oe.wpT, DL.Wk.wp, DL.wSeq, DL.wRet, DL.wRetN, DL.wNext, DL.wNever, DL.wDrop, DL.wAsg, DL.wIfS, DL.wFor, DL.wPar, DL.wPar3, DL.wParJ, DL.wParK, DL.wStarA, DL.wUpdX, DL.wFldS, DL.wParF, DL.wSetI, DL.wSetK, DL.wDnew, DL.wDlit, DL.wMeth, DL.wBm, DL.wIxX, DL.wZipL, DL.wZipLT, DL.wItemsL, DL.wAndV, DL.wOrV, DL.wNotV, DL.wAnd, DL.wOr, DL.wNot, DL.wIfB, DL.wTest, DL.wTru, DL.wIf, DL.w1, DL.w2, DL.w3, DL.wVar, DL.wC, DL.wNil, DL.wCons, DL.wTup, DL.wLst, DL.wCall, DL.wCallK, DL.wO0, DL.wO1, DL.wSl, DL.wStep, DL.wStepV, DL.wLc, DL.wSc, DL.wISeq, DL.wIR1, DL.wIR2, DL.wIZip, DL.wIMix, DL.wIStr, DL.wIEn, DL.wDc, DL.DcK.emp, DL.Wk.wp, DL.binF, DL.cmpF, DL.cmpYF, DL.isaD, DL.negD, DL.Blt.spec, DL.Bm.spec, DL.Bm.ty, List.getElem?_cons_zero, List.getElem?_cons_succ, Option.some.injEq, exists_eq_left', exists_eq_left, exists_and_left, List.set_cons_zero, List.set_cons_succ, DL.asn_name, DL.asn_tup, DL.asns_nil, DL.asns_name, DL.wipeD, DL.tru_bl, DL.tru_int, DL.tru_non, DL.tru_tup, DL.bodyEnds, List.map_cons, List.map_nil, ↓reduceIte, Bool.false_eq_true, and_true, true_and, DL.D.str.injEq, DL.D.int.injEq, DL.D.ref.injEq, DL.D.tup.injEq, DL.D.bl.injEq, DL.add_ii, DL.add_ss, DL.add_tt, DL.mul_ii, DL.int_ii, DL.abs_i, DL.int_i, DL.int_b, DL.eq_ii, DL.eq_ss, DL.lt_ii, DL.le_ii, DL.gt_ii, DL.ge_ii, DL.ix_0, DL.ix_1, DL.ix_2, DL.len_tt, DL.tup_n, $ts,*] at $h:ident)
namespace DL
open PySem L2
def S_l_pot (_ : Cs) : Spec := fun ds M Q => ∃ a ns k, ds = [.ref a, .int k] ∧ M a = some (.scr ns) ∧ ns.length ≤ 100 ∧ 0 ≤ k ∧ k ≤ 100 ∧ ∀ M' p, Keep M M' → M p = none → M' p = some .pot → Q (.ref p) M'
abbrev N_l_pot : List Str := ["_law_script", "_law_k", "_law_cell", "_law_great"]
def ir_l_pot (c : Cs) : Ss := (.cons (.asg (.name 2) (.bin .Add (.bin .Mult (.int 3) (.var 1)) (.bcall .len (.cons (.var 0) .nil)))) (.cons (.ife (.cmp .Lt (.var 1) (.bcall .len (.cons (.var 0) .nil))) (.cons (.asg (.name 2) (.idx (.var 0) (.var 1))) .nil) .nil) (.cons (.asg (.name 3) (.bin .Mult (.bin .Mod (.bcall .abs (.cons (.var 2) .nil)) .big) (.bcall .int (.cons (.cmp .GtE (.bcall .abs (.cons (.var 2) .nil)) (.bin .Pow (.int 10) (.int 18))) .nil)))) (.cons (.ret (.lst (.cons (.var 3) (.cons (.bin .Mod (.bin .Mult (.bin .Add (.bin .Add (.bin .Mod (.var 2) (.int 2305843009213693951)) (.bin .Mult (.bin .Mult (.int 7919) (.var 1)) (.var 1))) (.int 11)) (.int 48271)) (.int 2305843009213693951)) .nil)))) .nil))))
theorem wp_l_pot (c : Cs) {a : Addr} {ns : List Int} {k : Int} {M : Mp} {Q : DQ} (ha : M a = some (.scr ns)) (hz : ns.length ≤ 100) (h0 : 0 ≤ k) (h1 : k ≤ 100) (h : ∀ p g m, M p = none → PotOk g m → Q (.ref p) (up M p (.lst [.int g, .int m]))) : (ir_l_pot c).wp (bodyEnds Q) [some (.ref a), some (.int k), none, none] M := by
  have ln : ∀ {Q : DQ}, Q (.int ns.length) M → lenS [.ref a] M Q := fun q => ⟨_, ns.length, rfl, .inr ⟨ns, ha, rfl⟩, q⟩
  simp only [wX, ir_l_pot]
  refine ⟨.inl ⟨by decide, by decide⟩, ln ?_⟩
  simp only [wX]
  refine ln ?_
  simp only [wX]
  have hT : (0 : Int) < potTop := by unfold potTop; exact Int.pow_pos (by decide)
  have kk : 0 ≤ 7919 * k := by omega
  have go : ∀ cell : Int, 0 < potTop ∧ CPow 10 18 ∧ CMul ((if cell < 0 then -cell else cell) % potTop) (if decide (10 ^ Int.toNat 18 ≤ if cell < 0 then -cell else cell) = true then 1 else 0) ∧ (0 : Int) < 2305843009213693951 ∧ CMul 7919 k ∧ CMul (7919 * k) k ∧
      CMul (cell % 2305843009213693951 + 7919 * k * k + 11) 48271 ∧ (0 : Int) < 2305843009213693951 ∧ [D.int ((if cell < 0 then -cell else cell) % potTop * if decide (10 ^ Int.toNat 18 ≤ if cell < 0 then -cell else cell) = true then 1 else 0), D.int ((cell % 2305843009213693951 + 7919 * k * k + 11) * 48271 % 2305843009213693951)].length ≤ sizeLine ∧
      ∀ p, M p = none → Q (D.ref p) (up M p (.lst [D.int ((if cell < 0 then -cell else cell) % potTop * if decide (10 ^ Int.toNat 18 ≤ if cell < 0 then -cell else cell) = true then 1 else 0), D.int ((cell % 2305843009213693951 + 7919 * k * k + 11) * 48271 % 2305843009213693951)])) := by
    intro cell
    generalize (if cell < 0 then -cell else cell) = z
    generalize decide ((10 : Int) ^ Int.toNat 18 ≤ z) = b
    refine ⟨hT, ⟨by decide, by decide, by decide⟩, .inr ?_, by decide, .inl ⟨by decide, by decide⟩, .inr ⟨by omega, by omega⟩, .inr ⟨by decide, by decide⟩, by decide, by simp [sizeLine_eq], fun p hp => h p _ _ hp ⟨?_, ?_, Int.emod_nonneg _ (by decide), Int.emod_lt_of_pos _ (by decide)⟩⟩
    · cases b <;> exact ⟨by decide, by decide⟩
    · cases b
      · simp
      · simpa using Int.emod_nonneg z (by omega)
    · cases b
      · simpa using hT
      · simpa using Int.emod_lt_of_pos z hT
  by_cases hk : k < ns.length
  · simp only [hk, decide_true, if_true]
    obtain ⟨n, rfl⟩ := Int.eq_ofNat_of_zero_le h0
    have hn : n < ns.length := by omega
    refine .inr (.inr ⟨a, ns, n, ns[n], rfl, ha, rfl, atI_nat (List.getElem?_eq_getElem hn), ?_⟩)
    simp only [wX]
    exact go _
  · simp only [hk, decide_false, Bool.false_eq_true, if_false]
    exact go _
end DL
namespace DL
open PySem L2
def keyInj (xs : List D) : Prop := ∀ x ∈ xs, ∀ y ∈ xs, PySem.W.keyToks (py x) = PySem.W.keyToks (py y) → x = y
theorem sort_le (xs : List D) : (sortD xs).Pairwise fun x y => ltP y x = false := by
  have h := PySem.W.sort_pairwise (PySem.W.sortLe_total (PyProof.Rows.listOrd PyProof.Rows.itemOrd) false fun b => PySem.W.keyToks (py b)) xs
  refine List.Pairwise.imp (fun {a b} q => ?_) h
  have q : (!ltP b a) = true := q
  rwa [Bool.not_eq_true'] at q
theorem sort_perm (xs : List D) : (sortD xs).Perm xs := List.mergeSort_perm _ _
theorem sort_rise {xs : List D} (hi : keyInj xs) (nd : xs.Nodup) : risB (sortD xs) = true := by
  refine pair_ris ?_
  have h1 := sort_le xs
  have h2 : (sortD xs).Pairwise fun x y => x ≠ y := ((sort_perm xs).nodup_iff).mpr nd
  refine (h1.and h2).imp_of_mem fun {a b} ha hb q => ?_
  cases e : ltP a b with
  | true => rfl
  | false => exact (q.2 (hi a (mem_sort.mp ha) b (mem_sort.mp hb) (PyProof.Rows.lex_total _ _ e q.1))).elim
theorem toks_str (x : Str) : PySem.W.keyToks (py (.str x)) = [.inr x.cps.toList] := by simp only [py, PySem.W.keyToks]
theorem toks_tup (ds : List D) : PySem.W.keyToks (py (.tup ds)) = PySem.W.keyToksAll (pys ds) := by simp only [py, PySem.W.keyToks]
theorem str_ext {x y : Str} (h : x.cps.toList = y.cps.toList) : x = y := by
  cases x; cases y
  congr 1
  exact Array.toList_inj.mp h
theorem inj_strs {xs : List D} (h : ∀ x ∈ xs, ∃ s, x = .str s) : keyInj xs := fun x hx y hy e => by
  obtain ⟨s, rfl⟩ := h x hx
  obtain ⟨t, rfl⟩ := h y hy
  rw [toks_str, toks_str] at e
  injection e with e _
  injection e with e
  rw [str_ext e]
theorem toks_ints : ∀ (is js : List Int), PySem.W.keyToksAll (pys (is.map D.int)) = PySem.W.keyToksAll (pys (js.map D.int)) → is = js
  | [], [], _ => rfl
  | [], _ :: _, h => by simp [pys, py, PySem.W.keyToksAll, PySem.W.keyToks] at h
  | _ :: _, [], h => by simp [pys, py, PySem.W.keyToksAll, PySem.W.keyToks] at h
  | i :: is, j :: js, h => by
    simp [pys, py, PySem.W.keyToksAll, PySem.W.keyToks] at h
    rw [h.1, toks_ints is js h.2]
theorem inj_ties {xs : List D} (h : ∀ x ∈ xs, ∃ nm is, x = tie nm is) : keyInj xs := fun x hx y hy e => by
  obtain ⟨s, is, rfl⟩ := h x hx
  obtain ⟨t, js, rfl⟩ := h y hy
  unfold tie at e ⊢
  rw [toks_tup, toks_tup] at e
  simp only [pys, py, PySem.W.keyToksAll, PySem.W.keyToks, List.cons_append, List.nil_append] at e
  injection e with _ e
  injection e with e1 e2
  injection e1 with e1
  rw [str_ext e1, toks_ints is js e2]
def noQ : D → Prop
  | .str z => z.cps.toList.count 113 ≤ 1
  | _ => True
def nmLen : D → Nat
  | .str z => z.length
  | _ => 0
structure NamesOk (many : Nat) (ns : List D) : Prop where
  len : ns.length = many
  each : ∀ x ∈ ns, isNm x = true
  rise : risB ns = true
  q1 : ∀ x ∈ ns, noQ x
  one : ∃ n, ∀ x ∈ ns, nmLen x = n
def lett (first leap k : Nat) : Nat := 97 + (first + leap * k) % 26
theorem leap_ne : ∀ leap ∈ [1, 3, 5, 7, 9, 11], ∀ d < 26, leap * d % 26 = 0 → d = 0 := by decide
theorem lett_le {first leap a b : Nat} (hl : leap ∈ [1, 3, 5, 7, 9, 11]) (hab : a ≤ b) (hb : b < 26) (h : lett first leap a = lett first leap b) : a = b := by
  unfold lett at h
  have h' : (first + leap * b) % 26 = (first + leap * a) % 26 := (Nat.add_left_cancel h).symm
  have h2 := Nat.sub_mod_eq_zero_of_mod_eq h'
  have e : first + leap * b - (first + leap * a) = leap * (b - a) := by rw [Nat.add_sub_add_left, ← Nat.mul_sub]
  rw [e] at h2
  have := leap_ne leap hl (b - a) (by omega) h2
  omega
theorem lett_inj {first leap a b : Nat} (hl : leap ∈ [1, 3, 5, 7, 9, 11]) (ha : a < 26) (hb : b < 26) (h : lett first leap a = lett first leap b) : a = b := by
  rcases Nat.le_total a b with q | q
  · exact lett_le hl q hb h
  · exact (lett_le hl q ha h.symm).symm
def nameOf (stem : List Nat) (at_ ch : Nat) : List Nat := stem.take at_ ++ [ch] ++ stem.drop at_
theorem nameOf_inj {stem : List Nat} {at_ a b : Nat} (h : nameOf stem at_ a = nameOf stem at_ b) : a = b := by
  unfold nameOf at h
  have h1 := List.append_cancel_right h
  have h2 := List.append_cancel_left h1
  injection h2
theorem nameOf_ok {stem : List Nat} {at_ ch : Nat} (hs : stem.length ≤ 5) (hl : ∀ c ∈ stem, isLetter c = true) (hc : isLetter ch = true) : nameS (SX.S (nameOf stem at_ ch)) = true := by
  have e : (nameOf stem at_ ch).length = stem.length + 1 := by
    unfold nameOf
    have := congrArg List.length (List.take_append_drop at_ stem)
    rw [List.length_append] at this
    simp only [List.length_append, List.length_cons, List.length_nil]
    omega
  unfold nameS
  rw [SX.S_len, e, Bool.and_eq_true, Bool.and_eq_true]
  refine ⟨⟨decide_eq_true (by omega), decide_eq_true (by omega)⟩, ?_⟩
  show (nameOf stem at_ ch).all isLetter = true
  rw [List.all_eq_true]
  intro c hc'
  unfold nameOf at hc'
  rcases List.mem_append.mp hc' with h | h
  · rcases List.mem_append.mp h with h | h
    · exact hl c (List.mem_of_mem_take h)
    · rw [List.mem_singleton.mp h]; exact hc
  · exact hl c (List.mem_of_mem_drop h)
theorem sort_strs {a : Addr} {xs : List D} {M : Mp} {Q : DQ} (hx : ∀ x ∈ xs, ∃ s, x = .str s) (ha : M a = some (.lst xs)) (h : ∀ p, M p = none → Q (.ref p) (up M p (.lst (sortD xs)))) : sortedS [.ref a] M Q := by
  refine ⟨a, _, rfl, ha, plains_of fun d hd => ?_, fun d hd d' hd' => ?_, .inl (.inr fun d hd => ?_), fun d hd => ?_, h⟩
  · obtain ⟨s, rfl⟩ := hx d hd
    rfl
  · obtain ⟨x, h1, rfl⟩ := List.mem_map.mp hd
    obtain ⟨y, h2, rfl⟩ := List.mem_map.mp hd'
    obtain ⟨s, rfl⟩ := hx x h1
    obtain ⟨s', rfl⟩ := hx y h2
    simp [py, PySem.W.alike]
  · obtain ⟨x, h1, rfl⟩ := List.mem_map.mp hd
    obtain ⟨s, rfl⟩ := hx x h1
    simp [py]
  · obtain ⟨s, rfl⟩ := hx d hd
    simp [py, PyData.depth]
def oneD (ch : Nat) : D := .str ⟨#[ch]⟩
theorem join_ones : ∀ cs : List Nat, TL.joinL [] (cs.map fun ch => [ch]) = cs
  | [] => rfl
  | [_] => rfl
  | x :: y :: r => by
    show [x] ++ ([] ++ TL.joinL [] ((y :: r).map fun ch => [ch])) = _
    rw [join_ones (y :: r)]
    rfl
theorem alpha_at : ∀ n < 26, (Str.ofString "abcdefghijklmnopqrstuvwxyz").cps.toList[n]? = some (97 + n) := by decide +kernel
theorem six_at : ∀ ch ∈ (Str.ofString "abcxyz").cps.toList, isLetter ch = true ∧ ch ≠ 113 := by decide +kernel
theorem nameOf_q {stem : List Nat} {at_ ch : Nat} (hl : ∀ c ∈ stem, isLetter c = true ∧ c ≠ 113) : noQ (.str (SX.S (nameOf stem at_ ch))) := by
  have e : ∀ l : List Nat, (∀ c ∈ l, c ∈ stem) → l.count 113 = 0 := fun l h => List.count_eq_zero.mpr fun hm => (hl _ (h _ hm)).2 rfl
  show (nameOf stem at_ ch).count 113 ≤ 1
  unfold nameOf
  rw [List.count_append, List.count_append, e _ fun c h => List.mem_of_mem_take h, e _ fun c h => List.mem_of_mem_drop h]
  have := List.count_le_length (a := 113) (l := [ch])
  simp only [List.length_cons, List.length_nil] at this
  omega
def S_l_names (_ : Cs) : Spec := fun ds M Q => ∃ (p : Addr) (many : Nat), ds = [.ref p, .int many] ∧ M p = some .pot ∧ many ≤ 26 ∧ ∀ M' q ns, Keep M M' → M q = none → M' q = some (.lst ns) → NamesOk many ns → Q (.ref q) M'
abbrev N_l_names : List Str := ["_law_pot_here", "_law_many", "_law_stem", "_law_letters", "_law_at", "_law_first", "_law_leap", "_law_k", "_law_letter"]
def ir_l_names (c : Cs) : Ss := (.cons (.asg (.name 2) (.bm .join (.str "") (.cons (.lc [("_law_k", 7)] (.name 7) (.r1 (.call "_law_take" (S_l_take c) (.cons (.var 0) (.cons (.int 6) .nil)))) .none (.call "_law_of" (S_l_of c) (.cons (.var 0) (.cons (.bcall .list (.cons (.str "abcxyz") .nil)) .nil)))) .nil))) (.cons (.asg (.tup (.cons (.name 4) (.cons (.name 5) (.cons (.name 6) .nil)))) (.tup (.cons (.call "_law_take" (S_l_take c) (.cons (.var 0) (.cons (.bin .Add (.bcall .len (.cons (.var 2) .nil)) (.int 1)) .nil))) (.cons (.call "_law_take" (S_l_take c) (.cons (.var 0) (.cons (.int 26) .nil))) (.cons (.call "_law_of" (S_l_of c) (.cons (.var 0) (.cons (.lst (.cons (.int 1) (.cons (.int 3) (.cons (.int 5) (.cons (.int 7) (.cons (.int 9) (.cons (.int 11) .nil))))))) .nil))) .nil))))) (.cons (.setLc 3 [("_law_k", 7)] (.name 7) (.r1 (.var 1)) .none (.idx (.str "abcdefghijklmnopqrstuvwxyz") (.bin .Mod (.bin .Add (.var 5) (.bin .Mult (.var 6) (.var 7))) (.int 26)))) (.cons (.ret (.bcall .sorted (.cons (.lc [("_law_letter", 8)] (.name 8) (.seq (.var 3)) .none (.bin .Add (.bin .Add (.slc (.var 2) .none (.some (.var 4))) (.var 8)) (.slc (.var 2) (.some (.var 4)) .none))) .nil))) .nil))))
theorem wp_l_names (c : Cs) {p : Addr} {many : Nat} {M : Mp} {Q : DQ} (hp : M p = some .pot) (hm : many ≤ 26) (h : ∀ M' q ns, Keep M M' → M q = none → M' q = some (.lst ns) → NamesOk many ns → Q (.ref q) M') : (ir_l_names c).wp (bodyEnds Q) [some (.ref p), some (.int many), none, none, none, none, none, none, none] M := by
  simp only [wX, ir_l_names]
  refine ⟨rfl, p, 6, rfl, hp, by decide, by decide, fun n n0 n1 => ?_⟩
  refine ⟨n, rfl, by unfold small62; omega, by rw [rng_len, sizeLine_eq]; omega, ?_⟩
  refine lcGo_inv (T := ⟨rngI 0 n, fun _ => True⟩) (fun done acc M2 => Keep M M2 ∧ ∃ cs : List Nat, acc = cs.map oneD ∧ cs.length = done.length ∧ ∀ ch ∈ cs, isLetter ch = true ∧ ch ≠ 113) (fun _ _ _ _ => trivial) _ [] [] M ⟨.refl _, [], rfl, rfl, fun ch hc => by cases hc⟩ (fun x hx done acc M2 k hJ hk => ?_) fun acc M2 hJ q hq => ?_
  · obtain ⟨k2, cs, rfl, hl, hc⟩ := hJ
    refine ⟨_, rfl, yes_if ?_⟩
    simp only [wX]
    refine .inr ⟨_, rfl, by decide +kernel, fun l hl2 => ?_⟩
    refine ⟨p, l, _, rfl, Keep.new hl2 _ _ (k2 _ _ hp), up_same, by decide +kernel, by decide +kernel, fun y hy => ?_⟩
    unfold strL at hy
    obtain ⟨ch, hch, rfl⟩ := List.mem_map.mp hy
    refine hk _ _ ⟨k2.trans (.new hl2), cs ++ [ch], ?_, ?_, fun z hz => ?_⟩
    · rw [List.map_append]; rfl
    · rw [List.length_append, List.length_append, hl]; rfl
    · rcases List.mem_append.mp hz with hz | hz
      · exact hc z hz
      · rw [List.mem_singleton.mp hz]; exact six_at ch hch
  · obtain ⟨k2, cs, rfl, hl, hc⟩ := hJ
    rw [List.nil_append, rng_len] at hl
    have zc : cs.length ≤ 5 := by omega
    have k3 : Keep M (up M2 q (.lst (cs.map oneD))) := k2.trans (.new hq)
    have ey : ((cs.map fun ch => [ch]).map SX.S).map D.str = cs.map oneD := by rw [List.map_map, List.map_map]; rfl
    refine ⟨SX.S [], _, (cs.map fun ch => [ch]).map SX.S, by rfl, rfl, .inr ⟨q, rfl, by rw [ey]; exact up_same⟩, ?_, ?_⟩
    · rw [SX.lens, List.map_map, SX.S_len, List.length_map, List.length_map]
      have e2 : (cs.map ((fun x : List Nat => x.length) ∘ fun ch => [ch])) = List.replicate cs.length 1 := by
        rw [List.eq_replicate_iff]
        refine ⟨by simp, fun b hb => ?_⟩
        obtain ⟨ch, _, rfl⟩ := List.mem_map.mp hb
        rfl
      rw [e2, List.sum_replicate_nat, List.length_nil]
      omega
    rw [SX.join_S, join_ones]
    have zS : (SX.S cs).length = cs.length := SX.S_len cs
    refine ⟨_, _, rfl, ⟨by rw [zS, sizeLine_eq]; omega, rfl⟩, ?_⟩
    simp only [wX, zS]
    refine ⟨p, _, rfl, k3 _ _ hp, by omega, by omega, fun at_ a0 a1 => ?_⟩
    refine ⟨p, 26, rfl, k3 _ _ hp, by decide, by decide, fun first f0 f1 => ?_⟩
    refine ⟨by simp [sizeLine_eq], fun l hl2 => ?_⟩
    have k4 : Keep M (up (up M2 q (.lst (cs.map oneD))) l (.lst [D.int 1, D.int 3, D.int 5, D.int 7, D.int 9, D.int 11])) := k3.trans (.new hl2)
    refine ⟨p, l, _, rfl, k4 _ _ hp, up_same, by simp, by simp, fun y hy => ?_⟩
    obtain ⟨at_, rfl⟩ := Int.eq_ofNat_of_zero_le a0
    obtain ⟨first, rfl⟩ := Int.eq_ofNat_of_zero_le f0
    obtain ⟨leap, rfl, hleap⟩ : ∃ leap : Nat, y = .int leap ∧ leap ∈ [1, 3, 5, 7, 9, 11] := by
      simp only [List.mem_cons, List.not_mem_nil, or_false] at hy
      rcases hy with rfl | rfl | rfl | rfl | rfl | rfl
      · exact ⟨1, rfl, by decide⟩
      · exact ⟨3, rfl, by decide⟩
      · exact ⟨5, rfl, by decide⟩
      · exact ⟨7, rfl, by decide⟩
      · exact ⟨9, rfl, by decide⟩
      · exact ⟨11, rfl, by decide⟩
    refine ⟨by simp [sizeLine_eq], by unfold small62; omega, by rw [rng_len, sizeLine_eq]; omega, ?_⟩
    generalize up (up M2 q (.lst (cs.map oneD))) l (.lst [D.int 1, D.int 3, D.int 5, D.int 7, D.int 9, D.int 11]) = M4 at k4 ⊢
    have hleap' : leap ≤ 11 := by simp only [List.mem_cons, List.not_mem_nil, or_false] at hleap; omega
    refine lcGo_map (T := ⟨rngI 0 many, fun _ => True⟩) (M0 := M4) (fun x => match x with | .int i => some (oneD (lett first leap i.toNat)) | _ => none) (fun _ _ => trivial) _ M4 (.refl _) (fun x hx acc M5 k k5 hk => ?_) fun M5 k5 r hr => ?_
    · obtain ⟨i, rfl, i0, i1⟩ := rng_mem hx
      obtain ⟨i, rfl⟩ := Int.eq_ofNat_of_zero_le i0
      refine ⟨_, rfl, yes_if ?_⟩
      simp only [wX]
      refine ⟨.inl ⟨by omega, by omega⟩, by decide, .inr (.inl ⟨_, _, lett first leap i, rfl, rfl, by decide +kernel, ?_, hk M5 k5⟩)⟩
      have e : ((first : Int) + (leap : Int) * (i : Int)) % 26 = (((first + leap * i) % 26 : Nat) : Int) := by
        rw [Int.natCast_emod, Int.natCast_add, Int.natCast_mul]; rfl
      rw [e]
      exact atI_nat (alpha_at _ (Nat.mod_lt _ (by decide)))
    · generalize eL : (rngI 0 (many : Int)).filterMap _ = ls
      have eL' : ls = (List.range many).map fun i => oneD (lett first leap i) := by
        rw [← eL]
        unfold rngI
        rw [Int.sub_zero, Int.toNat_natCast, List.filterMap_map, ← List.filterMap_eq_map']
        congr 1
        funext a
        simp
      have zl : ls.length ≤ 26 := by rw [eL', List.length_map, List.length_range]; exact hm
      clear eL
      refine ⟨_, seqT_l up_same, by show ls.length ≤ sizeLine; rw [sizeLine_eq]; omega, ?_⟩
      have k6 : Keep M4 (up M5 r (.lst ls)) := k5.trans (.new hr)
      refine lcGo_map (T := ⟨ls, fun M => M r = some (.lst ls)⟩) (M0 := up M5 r (.lst ls)) (fun x => match x with | .str z => some (.str (SX.S (nameOf cs at_ (z.cps.toList.headD 0)))) | _ => none) (fun M6 k6 => k6 _ _ up_same) ls _ (.refl _) (fun x hx acc M6 k k7 hk => ?_) fun M6 k7 s hs => ?_
      · rw [eL'] at hx
        obtain ⟨i, hi, rfl⟩ := List.mem_map.mp hx
        refine ⟨_, rfl, yes_if ?_⟩
        simp only [wX, slD]
        refine ⟨by rw [zS, sizeLine_eq]; omega, ?_⟩
        rw [C8.cutS_slice, SX.slice_to (by omega), C8.cutS_slice, SX.slice_from (by omega), Int.toNat_natCast]
        have hk' := hk M6 k7
        have e1 : (SX.S (cs.take at_)).length ≤ 5 := by rw [SX.S_len, List.length_take]; omega
        have e2 : (SX.S (cs.drop at_)).length ≤ 5 := by rw [SX.S_len, List.length_drop]; omega
        have e3 : SX.S (cs.take at_) ++ (⟨#[lett first leap i]⟩ : Str) = SX.S (cs.take at_ ++ [lett first leap i]) := SX.S_cat _ [lett first leap i]
        refine ⟨by show _ + 1 ≤ sizeLine; rw [sizeLine_eq]; omega, by rw [zS, sizeLine_eq]; omega, ?_, ?_⟩
        · rw [e3, SX.S_len, List.length_append, List.length_take, sizeLine_eq]
          simp only [List.length_cons, List.length_nil]
          omega
        · rw [e3, SX.S_cat]
          exact hk'
      · generalize eN : ls.filterMap _ = ns0
        have eN' : ns0 = (List.range many).map fun i => D.str (SX.S (nameOf cs at_ (lett first leap i))) := by
          rw [← eN, eL', List.filterMap_map, ← List.filterMap_eq_map']
          congr 1
        clear eN
        have hstr : ∀ x ∈ ns0, ∃ i, i < many ∧ x = .str (SX.S (nameOf cs at_ (lett first leap i))) := fun x hx => by
          rw [eN'] at hx
          obtain ⟨i, hi, rfl⟩ := List.mem_map.mp hx
          exact ⟨i, List.mem_range.mp hi, rfl⟩
        refine sort_strs (xs := ns0) (fun x hx => let ⟨i, _, e⟩ := hstr x hx; ⟨_, e⟩) up_same fun t ht => ?_
        have k8 : Keep M (up (up M6 s (.lst ns0)) t (.lst (sortD ns0))) := k4.trans (k6.trans (k7.trans ((Keep.new hs).trans (.new ht))))
        have kt : Keep M (up M6 s (.lst ns0)) := k4.trans (k6.trans (k7.trans (Keep.new hs)))
        refine h _ t (sortD ns0) k8 (kt.none ht) up_same ⟨?_, fun x hx => ?_, sort_rise (inj_strs fun x hx => let ⟨i, _, e⟩ := hstr x hx; ⟨_, e⟩) ?_, fun x hx => ?_, cs.length + 1, fun x hx => ?_⟩
        · rw [len_sort, eN', List.length_map, List.length_range]
        · obtain ⟨i, hi, rfl⟩ := hstr x (mem_sort.mp hx)
          refine nameOf_ok zc (fun c h => (hc c h).1) ?_
          unfold lett isLetter
          have := Nat.mod_lt (first + leap * i) (show 26 > 0 by decide)
          rw [Bool.and_eq_true]
          exact ⟨decide_eq_true (by omega), decide_eq_true (by omega)⟩
        · rw [eN']
          refine nodup_on List.nodup_range fun a ha b hb e => ?_
          rw [List.mem_range] at ha hb
          injection e with e
          exact lett_inj hleap (by omega) (by omega) (nameOf_inj (SX.S_inj e))
        · obtain ⟨i, hi, rfl⟩ := hstr x (mem_sort.mp hx)
          exact nameOf_q hc
        · obtain ⟨i, hi, rfl⟩ := hstr x (mem_sort.mp hx)
          show (SX.S (nameOf cs at_ _)).length = _
          rw [SX.S_len]
          unfold nameOf
          have e := congrArg List.length (List.take_append_drop at_ cs)
          rw [List.length_append] at e
          simp only [List.length_append, List.length_cons, List.length_nil]
          omega
end DL
namespace DL
open PySem L2
theorem cut_take {α : Type} {xs : List α} {n : Nat} (h : n ≤ xs.length) : cutL xs none (some (n : Int)) = xs.take n := by
  unfold cutL
  rw [HT.sIx_nat, HT.sIx_none, Nat.min_eq_left h, Nat.sub_zero, List.drop_zero]
theorem cut_mid {α : Type} {xs : List α} {a b : Nat} (hab : a ≤ b) (h : b ≤ xs.length) : cutL xs (some (a : Int)) (some (b : Int)) = (xs.drop a).take (b - a) := by
  unfold cutL
  rw [HT.sIx_nat, HT.sIx_nat, Nat.min_eq_left h, Nat.min_eq_left (Nat.le_trans hab h)]
theorem ris_sub {xs ys : List D} (h : risB ys = true) (s : xs.Sublist ys) : risB xs = true := pair_ris ((ris_pair h).sublist s)
theorem nm_str {x : D} (h : isNm x = true) : ∃ nm, x = .str nm ∧ nameS nm = true := by
  cases x <;> first | exact ⟨_, rfl, h⟩ | cases h
theorem rules_of {s : Nat} {ns acc : List D} (hn : ∀ x ∈ ns, isNm x = true) (hr : risB ns = true) (hl : ns.length ≤ 3) (em : acc.map nameD = ns) (ha : ∀ d ∈ acc, ∃ x prs, d = .tup [x, .tup prs] ∧ PrsOk s prs) : RulesOk s acc := by
  refine ⟨?_, fun d hd => ?_, by rw [em]; exact hr⟩
  · have := congrArg List.length em
    rw [List.length_map] at this
    omega
  · obtain ⟨x, prs, rfl, ok⟩ := ha d hd
    obtain ⟨nm, e, h⟩ := nm_str (hn x (by rw [← em]; exact List.mem_map.mpr ⟨_, hd, rfl⟩))
    subst e
    exact ⟨nm, prs, rfl, h, ok.each, ok.rise⟩
structure MarksOk (s : Nat) (ms : List D) : Prop where
  each : ∀ x ∈ ms, isWh x 0 ((s : Int) - 1) = true
  rise : risB ms = true
theorem lt_int (i j : Int) : ltP (.int i) (.int j) = decide (i < j) := by
  unfold ltP
  simp only [py]
  exact PySem.W.dataLt_int i j
theorem rng_rise (n : Int) : risB (rngI 0 n) = true := pair_ris ((rng_pair n).imp fun {a b} h => by
  obtain ⟨i, j, rfl, rfl, h⟩ := h
  rw [lt_int, decide_eq_true_eq]
  exact h)
theorem MarksOk.sub {s : Nat} {ms : List D} (h : ms.Sublist (rngI 0 s)) : MarksOk s ms := by
  refine ⟨fun x hx => ?_, ris_sub (rng_rise _) h⟩
  obtain ⟨i, rfl, i0, i1⟩ := rng_mem (h.subset hx)
  exact wh_of i0 i1
theorem lists_of {s : Nat} {ns acc : List D} (hn : ∀ x ∈ ns, isNm x = true) (hr : risB ns = true) (hl : ns.length ≤ 6) (em : acc.map nameD = ns) (ha : ∀ d ∈ acc, ∃ x ms, d = .tup [x, .tup ms] ∧ MarksOk s ms) : ListsOk s acc := by
  refine ⟨?_, fun d hd => ?_, by rw [em]; exact hr⟩
  · have := congrArg List.length em
    rw [List.length_map] at this
    omega
  · obtain ⟨x, prs, rfl, ok⟩ := ha d hd
    obtain ⟨nm, e, h⟩ := nm_str (hn x (by rw [← em]; exact List.mem_map.mpr ⟨_, hd, rfl⟩))
    subst e
    exact ⟨nm, prs, rfl, h, ok.each, ok.rise⟩
theorem len_em {acc ns : List D} (em : acc.map nameD = ns) : acc.length = ns.length := by rw [← em, List.length_map]
def S_l_home (_ : Cs) : Spec := fun ds M Q => ∃ (p : Addr) (most : Nat), ds = [.ref p, .int most] ∧ M p = some .pot ∧ 1 ≤ most ∧ most ≤ 4 ∧ ∀ M' (s : Nat) rs ls, Keep M M' → 1 ≤ s → s ≤ most → RulesOk s rs → ListsOk s ls → 1 ≤ rs.length → ls.length ≤ 4 → (∀ x ∈ rs.map nameD, noQ x) ∧ (∀ x ∈ ls.map nameD, noQ x) ∧ (∃ n, (∀ x ∈ rs.map nameD, nmLen x = n) ∧ ∀ x ∈ ls.map nameD, nmLen x = n) → Q (.tup [.int s, .tup rs, .tup ls]) M'
abbrev N_l_home : List Str := ["_law_pot_here", "_law_most", "_law_laid", "_law_kept", "_law_name", "_law_size", "_law_names_here", "_law_mark"]
def ir_l_home (c : Cs) : Ss := (.cons (.asg (.tup (.cons (.name 5) (.cons (.name 6) .nil))) (.tup (.cons (.bin .Add (.int 1) (.call "_law_take" (S_l_take c) (.cons (.var 0) (.cons (.var 1) .nil)))) (.cons (.call "_law_names" (S_l_names c) (.cons (.var 0) (.cons (.int 8) .nil))) .nil)))) (.cons (.asg (.name 2) (.bcall .tuple (.cons (.lc [("_law_name", 4)] (.name 4) (.seq (.slc (.var 6) .none (.some (.bin .Add (.int 1) (.call "_law_take" (S_l_take c) (.cons (.var 0) (.cons (.int 3) .nil))))))) .none (.tup (.cons (.var 4) (.cons (.call "_law_pairs" (S_l_pairs c) (.cons (.var 0) (.cons (.var 5) .nil))) .nil)))) .nil))) (.cons (.ife (.cmp .Eq (.call "_law_take" (S_l_take c) (.cons (.var 0) (.cons (.int 3) .nil))) (.int 0)) (.cons (.ret (.tup (.cons (.var 5) (.cons (.var 2) (.cons (.bcall .tuple (.cons (.lc [("_law_mark", 7)] (.name 7) (.r1 (.var 5)) .none (.tup (.cons (.idx (.var 6) (.bin .Add (.int 3) (.var 7))) (.cons (.tup (.cons (.var 7) .nil)) .nil)))) .nil)) .nil))))) .nil) .nil) (.cons (.asg (.name 3) (.lst .nil)) (.cons (.for_ (.name 4) (.seq (.slc (.var 6) (.some (.int 3)) (.some (.bin .Add (.int 3) (.call "_law_take" (S_l_take c) (.cons (.var 0) (.cons (.int 3) .nil))))))) (.cons (.expr (.bm .append (.var 3) (.cons (.tup (.cons (.var 4) (.cons (.bcall .tuple (.cons (.lc [("_law_mark", 7)] (.name 7) (.r1 (.var 5)) (.some (.cmp .Gt (.call "_law_take" (S_l_take c) (.cons (.var 0) (.cons (.int 3) .nil))) (.int 0))) (.var 7)) .nil)) .nil))) .nil))) .nil)) (.cons (.ret (.tup (.cons (.var 5) (.cons (.var 2) (.cons (.bcall .tuple (.cons (.var 3) .nil)) .nil))))) .nil))))))
theorem wp_l_home (c : Cs) {p : Addr} {most : Nat} {M : Mp} {Q : DQ} (hp : M p = some .pot) (h1 : 1 ≤ most) (h4 : most ≤ 4) (h : ∀ M' (s : Nat) rs ls, Keep M M' → 1 ≤ s → s ≤ most → RulesOk s rs → ListsOk s ls → 1 ≤ rs.length → ls.length ≤ 4 → (∀ x ∈ rs.map nameD, noQ x) ∧ (∀ x ∈ ls.map nameD, noQ x) ∧ (∃ n, (∀ x ∈ rs.map nameD, nmLen x = n) ∧ ∀ x ∈ ls.map nameD, nmLen x = n) → Q (.tup [.int s, .tup rs, .tup ls]) M') :
    (ir_l_home c).wp (bodyEnds Q) [some (.ref p), some (.int most), none, none, none, none, none, none] M := by
  simp only [wX, ir_l_home]
  refine ⟨p, most, rfl, hp, by omega, by omega, fun r r0 r1 => ?_⟩
  simp only [wX]
  refine ⟨p, 8, rfl, hp, by decide, fun M1 nq ns k1 hnq hns okn => ?_⟩
  obtain ⟨r, rfl⟩ := Int.eq_ofNat_of_zero_le r0
  obtain ⟨s, hs⟩ : ∃ s : Nat, s = 1 + r := ⟨_, rfl⟩
  have es : (1 : Int) + (r : Int) = (s : Int) := by omega
  simp only [es]
  refine ⟨by simp [sizeLine_eq], p, 3, rfl, k1 _ _ hp, by decide, by decide, fun r2 s0 s1 => ?_⟩
  simp only [wX]
  obtain ⟨r2, rfl⟩ := Int.eq_ofNat_of_zero_le s0
  have e2 : (1 : Int) + (r2 : Int) = ((1 + r2 : Nat) : Int) := by omega
  have hl8 : ns.length = 8 := okn.len
  refine slD_l (ds' := ns.take (1 + r2)) (by rw [e2]; exact cut_take (by omega)) hns fun l hl => ?_
  have k2 : Keep M (up M1 l (.lst (ns.take (1 + r2)))) := k1.trans (.new hl)
  have hns2 : up M1 l (.lst (ns.take (1 + r2))) nq = some (.lst ns) := Keep.new hl _ _ hns
  have zt : (ns.take (1 + r2)).length = 1 + r2 := by rw [List.length_take]; omega
  refine ⟨_, seqT_l up_same, by show (ns.take (1 + r2)).length ≤ sizeLine; rw [zt, sizeLine_eq]; omega, ?_⟩
  refine lcGo_inv (T := ⟨ns.take (1 + r2), fun M => M l = some (.lst (ns.take (1 + r2)))⟩) (fun done acc M2 => Keep (up M1 l (.lst (ns.take (1 + r2)))) M2 ∧ acc.map nameD = done ∧ ∀ d ∈ acc, ∃ x prs, d = .tup [x, .tup prs] ∧ PrsOk s prs) (fun _ _ _ hJ => hJ.1 _ _ up_same) _ [] [] _ ⟨.refl _, rfl, fun d hd => by cases hd⟩ (fun x hx done acc M2 k hJ hk => ?_) fun acc M2 hJ q hq => ?_
  · obtain ⟨k3, em, ha⟩ := hJ
    refine ⟨_, rfl, yes_if ?_⟩
    simp only [wX]
    refine ⟨p, s, rfl, k3 _ _ (k2 _ _ hp), by omega, by omega, fun M3 prs k4 ok => ?_⟩
    refine ⟨by simp [sizeLine_eq], hk _ _ ⟨k3.trans k4, ?_, fun d hd => ?_⟩⟩
    · rw [List.map_append, em]; rfl
    · rcases List.mem_append.mp hd with hd | hd
      · exact ha d hd
      · obtain rfl := List.mem_singleton.mp hd
        exact ⟨x, prs, rfl, ok⟩
  obtain ⟨k3, em, ha⟩ := hJ
  rw [List.nil_append] at em
  have okr : RulesOk s acc := rules_of (fun x hx => okn.each x (List.mem_of_mem_take hx)) (ris_sub okn.rise (List.take_sublist _ _)) (by omega) em ha
  have lacc : 1 ≤ acc.length := by rw [len_em em, zt]; omega
  have rq : ∀ x ∈ acc.map nameD, noQ x := fun x hx => okn.q1 x (List.mem_of_mem_take (by rw [em] at hx; exact hx))
  obtain ⟨nl, hnl⟩ := okn.one
  have rl : ∀ x ∈ acc.map nameD, nmLen x = nl := fun x hx => hnl x (List.mem_of_mem_take (by rw [em] at hx; exact hx))
  have k4 : Keep M (up M2 q (.lst acc)) := k2.trans (k3.trans (.new hq))
  have hns4 : up M2 q (.lst acc) nq = some (.lst ns) := Keep.new hq _ _ (k3 _ _ hns2)
  generalize up M2 q (.lst acc) = M4 at k4 hns4 ⊢
  clear k3 ha em hq k2 hns2 hl hns k1
  refine ⟨p, 3, rfl, k4 _ _ hp, by decide, by decide, fun r3 t0 t1 => ?_⟩
  simp only [wX]
  by_cases hr3 : r3 = 0
  · simp only [hr3, decide_true, if_true]
    refine ⟨by unfold small62; omega, by rw [rng_len, sizeLine_eq]; omega, ?_⟩
    refine lcGo_map (T := ⟨rngI 0 s, fun _ => True⟩) (M0 := M4) (fun x => match x with | .int i => some (.tup [ns.getD (3 + i.toNat) .non, .tup [.int i]]) | _ => none) (fun _ _ => trivial) _ M4 (.refl _) (fun x hx acc2 M5 k k5 hk => ?_) fun M5 k5 w hw => ?_
    · obtain ⟨i, rfl, i0, i1⟩ := rng_mem hx
      obtain ⟨i, rfl⟩ := Int.eq_ofNat_of_zero_le i0
      refine ⟨_, rfl, yes_if ?_⟩
      simp only [wX]
      have e3 : (3 : Int) + (i : Int) = ((3 + i : Nat) : Int) := by omega
      rw [e3]
      have hi : 3 + i < ns.length := by omega
      refine ix_l (3 + i) (k5 _ _ hns4) (List.getElem?_eq_getElem hi) ?_
      refine ⟨by simp [sizeLine_eq], by simp [sizeLine_eq], ?_⟩
      have := hk M5 k5
      simpa [List.getD, List.getElem?_eq_getElem hi] using this
    · refine ⟨by simp [sizeLine_eq], ?_⟩
      generalize eL : (rngI 0 (s : Int)).filterMap _ = ls
      have eL' : ls = (List.range s).map fun i => D.tup [ns.getD (3 + i) .non, .tup [.int (i : Nat)]] := by
        rw [← eL]
        unfold rngI
        rw [Int.sub_zero, Int.toNat_natCast, List.filterMap_map, ← List.filterMap_eq_map']
        congr 1
        funext a
        simp
      have en : ls.map nameD = (List.range s).map fun i => ns.getD (3 + i) .non := by rw [eL', List.map_map]; rfl
      clear eL
      have zl : ls.length = s := by rw [eL', List.length_map, List.length_range]
      refine h _ s acc ls (k4.trans (k5.trans (.new hw))) (by omega) (by omega) okr (lists_of (ns := ls.map nameD) (fun x hx => ?_) ?_ (by rw [List.length_map]; omega) rfl fun d hd => ?_) lacc (by omega) ⟨rq, fun x hx => ?_, nl, rl, fun x hx => ?_⟩
      · rw [en] at hx
        obtain ⟨i, hi, rfl⟩ := List.mem_map.mp hx
        rw [List.mem_range] at hi
        have hi : 3 + i < ns.length := by omega
        have : ns.getD (3 + i) .non = ns[3 + i] := by simp [List.getD, List.getElem?_eq_getElem hi]
        rw [this]
        exact okn.each _ (List.getElem_mem hi)
      · refine pair_ris ?_
        rw [en, List.pairwise_map]
        refine List.Pairwise.imp_of_mem (fun {a b} ha hb hab => ?_) (List.pairwise_lt_range (n := s))
        rw [List.mem_range] at ha hb
        have ha' : 3 + a < ns.length := by omega
        have hb' : 3 + b < ns.length := by omega
        have e1 : ns.getD (3 + a) .non = ns[3 + a] := by simp [List.getD, List.getElem?_eq_getElem ha']
        have e2 : ns.getD (3 + b) .non = ns[3 + b] := by simp [List.getD, List.getElem?_eq_getElem hb']
        rw [e1, e2]
        exact List.pairwise_iff_getElem.mp (ris_pair okn.rise) _ _ ha' hb' (by omega)
      · rw [eL'] at hd
        obtain ⟨i, hi, rfl⟩ := List.mem_map.mp hd
        rw [List.mem_range] at hi
        exact ⟨_, _, rfl, fun x hx => by rw [List.mem_singleton.mp hx]; exact wh_of (by omega) (by omega), rfl⟩
      · rw [en] at hx
        obtain ⟨i, hi, rfl⟩ := List.mem_map.mp hx
        rw [List.mem_range] at hi
        have hi : 3 + i < ns.length := by omega
        have : ns.getD (3 + i) .non = ns[3 + i] := by simp [List.getD, List.getElem?_eq_getElem hi]
        rw [this]
        exact okn.q1 _ (List.getElem_mem hi)
      · rw [en] at hx
        obtain ⟨i, hi, rfl⟩ := List.mem_map.mp hx
        rw [List.mem_range] at hi
        have hi : 3 + i < ns.length := by omega
        have : ns.getD (3 + i) .non = ns[3 + i] := by simp [List.getD, List.getElem?_eq_getElem hi]
        rw [this]
        exact hnl _ (List.getElem_mem hi)
  · simp only [hr3, decide_false, Bool.false_eq_true, if_false]
    refine ⟨by simp [sizeLine_eq], fun kp hkp => ?_⟩
    have k5 : Keep M4 (up M4 kp (.lst [])) := .new hkp
    refine ⟨p, 3, rfl, k5 _ _ (k4 _ _ hp), by decide, by decide, fun r4 u0 u1 => ?_⟩
    simp only [wX]
    obtain ⟨r4, rfl⟩ := Int.eq_ofNat_of_zero_le u0
    have e3 : (3 : Int) + (r4 : Int) = ((3 + r4 : Nat) : Int) := by omega
    refine slD_l (ds' := (ns.drop 3).take r4) (by rw [e3]; exact (cut_mid (a := 3) (b := 3 + r4) (by omega) (by omega)).trans (by rw [Nat.add_sub_cancel_left])) (k5 _ _ hns4) fun l hl => ?_
    refine ⟨_, seqT_l up_same, ?_⟩
    have k6 : Keep M4 (up (up M4 kp (.lst [])) l (.lst ((ns.drop 3).take r4))) := k5.trans (.new hl)
    have nlk : kp ≠ l := fun e => by subst e; rw [up_same] at hl; cases hl
    have hsub : ((ns.drop 3).take r4).Sublist ns := (List.take_sublist _ _).trans (List.drop_sublist _ _)
    have zt2 : ((ns.drop 3).take r4).length ≤ 2 := by rw [List.length_take]; omega
    generalize hsl : (ns.drop 3).take r4 = sl at *
    refine forGo_pos (T := ⟨sl, fun M => M l = some (.lst sl)⟩) (fun done ρ M5 => Keep M4 M5 ∧ M5 l = some (.lst sl) ∧ (∃ acc2, M5 kp = some (.lst acc2) ∧ acc2.map nameD = done ∧ ∀ d ∈ acc2, ∃ x ms, d = .tup [x, .tup ms] ∧ MarksOk s ms) ∧ ∃ v, ρ = [some (.ref p), some (.int most), some (.tup acc), some (.ref kp), v, some (.int s), some (.ref nq), none]) (fun _ _ _ hJ => hJ.2.1) sl [] _ _ ⟨k6, up_same, ⟨[], by rw [up_ne nlk]; exact up_same, rfl, fun d hd => by cases hd⟩, _, rfl⟩ (fun x pre post e ρ M5 k hJ hk => ?_) fun ρ M5 hJ => ?_
    · obtain ⟨k7, hl7, ⟨acc2, hk7, em2, ha2⟩, v, rfl⟩ := hJ
      rw [List.nil_append] at em2 hk
      refine ⟨_, rfl, ?_⟩
      simp only [wX]
      refine ⟨.inl ⟨rfl, _, hk7⟩, by unfold small62; omega, by rw [rng_len, sizeLine_eq]; omega, ?_⟩
      refine lcGo_sub (T := ⟨rngI 0 s, fun _ => True⟩) (M0 := M5) (fun _ _ => trivial) (rngI 0 s) M5 (.refl _) (fun y hy acc3 M6 k' k8 y1 y2 => ?_) fun ms M6 k8 hms w hw => ?_
      · refine ⟨_, rfl, ?_⟩
        simp only [wX]
        refine ⟨p, 3, rfl, k8 _ _ (k7 _ _ (k4 _ _ hp)), by decide, by decide, fun r5 v0 v1 => ?_⟩
        simp only [wX]
        by_cases h5 : 0 < r5
        · simp only [h5, decide_true, if_true]
          exact y1 M6 k8
        · simp only [h5, decide_false, Bool.false_eq_true, if_false]
          exact y2 M6 k8
      · have nkw : kp ≠ w := fun e => by subst e; rw [k8 _ _ hk7] at hw; cases hw
        have nlw : l ≠ w := fun e => by subst e; rw [k8 _ _ hl7] at hw; cases hw
        refine ⟨by simp [sizeLine_eq], kp, acc2, _, rfl, rfl, by rw [up_ne nkw]; exact k8 _ _ hk7, ?_, ?_⟩
        · have e1 := len_em em2
          have e2 := congrArg List.length e
          rw [List.length_append, List.length_cons] at e2
          rw [sizeLine_eq]
          omega
        · refine hk _ _ ⟨(k7.trans (k8.trans (.new hw))).put hkp, ?_, ⟨acc2 ++ [.tup [x, .tup ms]], up_same, ?_, fun d hd => ?_⟩, _, rfl⟩
          · rw [up_ne (Ne.symm nlk), up_ne nlw]; exact k8 _ _ hl7
          · rw [List.map_append, em2]; rfl
          · rcases List.mem_append.mp hd with hd | hd
            · exact ha2 d hd
            · obtain rfl := List.mem_singleton.mp hd
              exact ⟨x, ms, rfl, .sub hms⟩
    · obtain ⟨k7, hl7, ⟨acc2, hk7, em2, ha2⟩, v, rfl⟩ := hJ
      rw [List.nil_append] at em2
      simp only [wX]
      refine ⟨_, acc2, rfl, .inr ⟨kp, rfl, hk7⟩, by simp [sizeLine_eq], ?_⟩
      refine h _ s acc acc2 (k4.trans k7) (by omega) (by omega) okr (lists_of (fun x hx => okn.each x (hsub.subset hx)) (ris_sub okn.rise hsub) (by omega) em2 ha2) lacc (by rw [len_em em2]; omega) ⟨rq, fun x hx => okn.q1 x (hsub.subset (by rw [em2] at hx; exact hx)), nl, rl, fun x hx => hnl x (hsub.subset (by rw [em2] at hx; exact hx))⟩
end DL
namespace DL
open PySem L2
end DL
namespace DL
open PySem L2
theorem tie_repr {nm : Str} {is : List Int} {n : Nat} (hn : nameS nm = true) (hl : is.length ≤ 2) (hi : ∀ i ∈ is, i.natAbs < 100) : (py (tie nm is)).shown.length ≤ 200 ∧ (py (tie nm is)).showable = true := by
  unfold tie
  constructor
  · refine Nat.le_trans (shown_tup (n := 62) fun d hd => ?_) ?_
    · rcases List.mem_cons.mp hd with rfl | hd
      · exact shown_name hn
      · obtain ⟨i, hi', rfl⟩ := List.mem_map.mp hd
        exact Nat.le_trans (shown_int (k := 2) (by decide) (hi i hi')) (by decide)
    · rw [List.length_cons, List.length_map]; omega
  · refine showable_tup fun d hd => ?_
    rcases List.mem_cons.mp hd with rfl | hd
    · exact showable_str _
    · obtain ⟨i, hi', rfl⟩ := List.mem_map.mp hd
      exact showable_int (Nat.lt_trans (hi i hi') (by decide))
theorem ties_repr {knots : Int} {n : Nat} {xs : List D} (h : TiesOk knots n xs) (hn : n ≤ 2) (hk : knots ≤ 60) (hl : xs.length ≤ 700) : (py (.tup xs)).shown.length ≤ 150000 ∧ (py (.tup xs)).showable = true := by
  have q : ∀ d ∈ xs, (py d).shown.length ≤ 200 ∧ (py d).showable = true := fun d hd => by
    obtain ⟨nm, is, rfl, el, hn', hi⟩ := h.each d hd
    exact tie_repr (n := n) hn' (by omega) fun i hi' => by have := hi i hi'; omega
  constructor
  · refine Nat.le_trans (shown_tup (n := 200) fun d hd => (q d hd).1) ?_
    have : xs.length * (200 + 2) ≤ 700 * 202 := Nat.mul_le_mul_right _ hl
    omega
  · exact showable_tup fun d hd => (q d hd).2
theorem NetOk.repr {knots : Int} {ls bs : List D} (h : NetOk knots ls bs) : (py (netT knots ls bs)).shown.length ≤ sizeLine ∧ (py (netT knots ls bs)).showable = true := by
  have h1 := ties_repr h.lk (by decide) h.k1 h.ll
  have h2 := ties_repr h.lb (by decide) h.k1 (by have := h.bl; omega)
  have h3 : (py (.int knots)).shown.length ≤ 150000 ∧ (py (.int knots)).showable = true := by
    have := h.k0
    have := h.k1
    have e : knots.natAbs < 10 ^ 2 := by omega
    exact ⟨Nat.le_trans (shown_int (k := 2) (by decide) e) (by decide), showable_int (Nat.lt_trans e (by decide))⟩
  have q : ∀ d ∈ [D.int knots, .tup ls, .tup bs], (py d).shown.length ≤ 150000 ∧ (py d).showable = true := fun d hd => by
    simp only [List.mem_cons, List.not_mem_nil, or_false] at hd
    rcases hd with rfl | rfl | rfl
    · exact h3
    · exact h1
    · exact h2
  constructor
  · refine Nat.le_trans (shown_tup (n := 150000) fun d hd => (q d hd).1) ?_
    rw [sizeLine_eq]
    simp
  · exact showable_tup fun d hd => (q d hd).2
end DL
namespace DL
open PySem L2
def tkey (nm : Str) (is : List Int) : List Key := .inr nm :: is.map .inl
theorem keyT_tkey (nm : Str) (is : List Int) : keyT (tkey nm is) = tie nm is := by
  unfold keyT tkey tie
  rw [List.map_cons, List.map_map]
  rfl
structure TKeys (names : List D) (many : Int) (n : Nat) (kvs : List (List Key × D)) : Prop where
  nd : (kvs.map Prod.fst).Nodup
  each : ∀ p ∈ kvs, ∃ nm is, p.1 = tkey nm is ∧ is.length = n ∧ .str nm ∈ names ∧ ∀ i ∈ is, 0 ≤ i ∧ i ≤ many - 1
theorem TKeys.nil {names : List D} {many : Int} {n : Nat} : TKeys names many n [] := ⟨.nil, fun p hp => by cases hp⟩
theorem keys_put {κ : Type} [DecidableEq κ] (kvs : List (κ × D)) (k : κ) (d : D) : (putL kvs k d).map Prod.fst = if hasK kvs k = true then kvs.map Prod.fst else kvs.map Prod.fst ++ [k] := by
  unfold putL
  split
  · rw [List.map_map]
    apply List.map_congr_left
    intro p _
    show (if p.1 = k then (p.1, d) else p).1 = p.1
    split <;> rfl
  · rw [List.map_append]; rfl
theorem put_len {κ : Type} [DecidableEq κ] (kvs : List (κ × D)) (k : κ) (d : D) : (putL kvs k d).length ≤ kvs.length + 1 := by
  have h := congrArg List.length (keys_put kvs k d)
  rw [List.length_map] at h
  rw [h]
  split
  · rw [List.length_map]; omega
  · rw [List.length_append, List.length_map]; simp
theorem TKeys.put {names : List D} {many : Int} {n : Nat} {kvs : List (List Key × D)} (h : TKeys names many n kvs) {nm : Str} {is : List Int} {d : D} (hl : is.length = n) (hn : .str nm ∈ names) (hi : ∀ i ∈ is, 0 ≤ i ∧ i ≤ many - 1) : TKeys names many n (putL kvs (tkey nm is) d) := by
  have ek := keys_put kvs (tkey nm is) d
  refine ⟨?_, fun p hp => ?_⟩
  · rw [ek]
    split
    · exact h.nd
    · rename_i q
      refine List.nodup_append.mpr ⟨h.nd, by simp, fun a ha b hb e => ?_⟩
      rw [List.mem_singleton.mp hb] at e
      subst e
      exact q (hasK_iff.mpr ha)
  · have hm : p.1 ∈ (putL kvs (tkey nm is) d).map Prod.fst := List.mem_map_of_mem hp
    rw [ek] at hm
    have old : p.1 ∈ kvs.map Prod.fst → ∃ nm is, p.1 = tkey nm is ∧ is.length = n ∧ .str nm ∈ names ∧ ∀ i ∈ is, 0 ≤ i ∧ i ≤ many - 1 := fun hm => by
      obtain ⟨q, hq, e⟩ := List.mem_map.mp hm
      rw [← e]
      exact h.each q hq
    split at hm
    · exact old hm
    · rcases List.mem_append.mp hm with hm | hm
      · exact old hm
      · rw [List.mem_singleton.mp hm]
        exact ⟨nm, is, rfl, hl, hn, hi⟩
def tiesK (kvs : List (List Key × D)) : List D := kvs.map fun p => keyT p.1
theorem TKeys.tie {names : List D} {many : Int} {n : Nat} {kvs : List (List Key × D)} (h : TKeys names many n kvs) : ∀ x ∈ tiesK kvs, ∃ nm is, x = tie nm is ∧ is.length = n ∧ .str nm ∈ names ∧ ∀ i ∈ is, 0 ≤ i ∧ i ≤ many - 1 := fun x hx => by
  obtain ⟨p, hp, rfl⟩ := List.mem_map.mp hx
  obtain ⟨nm, is, e, r⟩ := h.each p hp
  exact ⟨nm, is, by rw [e, keyT_tkey], r⟩
theorem TKeys.nodup {names : List D} {many : Int} {n : Nat} {kvs : List (List Key × D)} (h : TKeys names many n kvs) : (tiesK kvs).Nodup := by
  unfold tiesK
  have e : (kvs.map fun p => keyT p.1) = (kvs.map Prod.fst).map keyT := by rw [List.map_map]; rfl
  rw [e]
  refine nodup_on h.nd fun a ha b hb q => ?_
  obtain ⟨p, hp, rfl⟩ := List.mem_map.mp ha
  obtain ⟨p', hp', rfl⟩ := List.mem_map.mp hb
  obtain ⟨n1, is, e1, _⟩ := h.each p hp
  obtain ⟨n2, js, e2, _⟩ := h.each p' hp'
  rw [e1, e2, keyT_tkey, keyT_tkey] at q
  rw [e1, e2]
  unfold DL.tie at q
  injection q with q
  injection q with q1 q2
  injection q1 with q1
  rw [q1, (List.map_inj_right (f := D.int) fun a b z => by injection z).mp q2]
theorem TKeys.ok {names : List D} {many : Int} {n : Nat} {kvs : List (List Key × D)} (h : TKeys names many n kvs) (hn : ∀ x ∈ names, isNm x = true) : TiesOk many n (sortD (tiesK kvs)) := by
  refine ⟨fun x hx => ?_, sort_rise (inj_ties fun x hx => let ⟨nm, is, e, _⟩ := h.tie x hx; ⟨nm, is, e⟩) h.nodup⟩
  obtain ⟨nm, is, e, hl, hm, hi⟩ := h.tie x (mem_sort.mp hx)
  exact ⟨nm, is, e, hl, hn _ hm, hi⟩
theorem sortX_ties {names : List D} {many : Int} {n : Nat} {a : Addr} {P : Program} {w : World} {kvs : List (List Key × D)} {M : Mp} {Q : DQ} (h : TKeys names many n kvs) (hz : kvs.length ≤ sizeLine) (ha : M a = some (.dX P w kvs)) (hq : ∀ p, M p = none → Q (.ref p) (up M p (.lst (sortD (tiesK kvs))))) : sortXS [.ref a] M Q := by
  refine ⟨a, P, w, kvs, rfl, ha, fun d hd d' hd' => ?_, fun p hp => ?_, fun p hp => ?_, hz, hq⟩
  · obtain ⟨x, h1, rfl⟩ := List.mem_map.mp hd
    obtain ⟨y, h2, rfl⟩ := List.mem_map.mp hd'
    obtain ⟨nm, is, rfl, _⟩ := h.tie x h1
    obtain ⟨nm', js, rfl, _⟩ := h.tie y h2
    exact (cmpP_tie nm nm' is js).2.2.1
  · obtain ⟨nm, is, e, _⟩ := h.each p hp
    rw [e]
    unfold tkey
    simp
  · obtain ⟨nm, is, e, _⟩ := h.each p hp
    rw [e, keyT_tkey]
    exact Nat.le_trans (dep_tie nm is) (by decide)
structure MeshOk (rs ls : List D) (many : Int) (ks bs : List D) : Prop where
  net : NetOk many ks bs
  kn : ∀ x ∈ ks, ∃ nm is, x = tie nm is ∧ .str nm ∈ rs.map nameD
  bn : ∀ x ∈ bs, ∃ nm is, x = tie nm is ∧ .str nm ∈ ls.map nameD
theorem TiesOk.nil {many : Int} {n : Nat} : TiesOk many n [] := ⟨fun x hx => (by cases hx), rfl⟩
theorem MeshOk.nil {rs ls : List D} : MeshOk rs ls 0 [] [] := ⟨⟨by decide, by decide, by decide, by decide, .nil, .nil⟩, fun x hx => (by cases hx), fun x hx => (by cases hx)⟩
theorem names_ok {xs : List D} (hc : ∀ x ∈ xs, called x) : ∀ x ∈ xs.map nameD, isNm x = true := fun x hx => by
  obtain ⟨y, hy, rfl⟩ := List.mem_map.mp hx
  obtain ⟨nm, d, rfl, hn⟩ := hc y hy
  exact hn
theorem lists_good {s : Int} {ls : List D} (h : ListsOk s ls) : plain (.tup ls) = true ∧ lay (.tup ls) ∧ (py (.tup ls)).depth ≤ 64 := by
  have q : ∀ d ∈ ls, plain d = true ∧ lay d ∧ (py d).depth ≤ 3 := fun d hd => by
    obtain ⟨nm, ms, rfl, hn, hm, _⟩ := h.each d hd
    have qm : ∀ e ∈ ms, plain e = true ∧ lay e ∧ (py e).depth ≤ 1 := fun e he => by
      obtain ⟨i, rfl⟩ := isWh_int (hm e he)
      exact ⟨rfl, lay_int i, by simp [py, PyData.depth]⟩
    refine ⟨?_, lay_tup fun e he => ?_, dep_le (n := 2) fun e he => ?_⟩
    · show (plain (.str nm) && (plain (.tup ms) && true)) = true
      have : plain (.tup ms) = true := plains_of fun e he => (qm e he).1
      rw [this]; rfl
    · simp only [List.mem_cons, List.not_mem_nil, or_false] at he
      rcases he with rfl | rfl
      · exact lay_name hn
      · exact lay_tup fun e he => (qm e he).2.1
    · simp only [List.mem_cons, List.not_mem_nil, or_false] at he
      rcases he with rfl | rfl
      · simp [py, PyData.depth]
      · exact dep_le (n := 1) fun e he => (qm e he).2.2
  exact ⟨plains_of fun d hd => (q d hd).1, lay_tup fun d hd => (q d hd).2.1, Nat.le_trans (dep_le (n := 3) fun d hd => (q d hd).2.2) (by decide)⟩
theorem ne_empty {s : Int} {ls : List D} {M : Mp} {Q : DQ} (h : ListsOk s ls) (q : Q (.bl (!ls.isEmpty)) M) : eqD true (.tup ls) (.tup []) M Q := by
  obtain ⟨g1, g2, g3⟩ := lists_good h
  refine eq_plain g1 rfl (shaped_py g2 g3) (shaped_py (lay_tup fun d hd => by cases hd) (by simp [py, pys, PyData.depth, PyData.depthAll])) ?_
  cases ls with
  | nil => simpa [py, pys, PyData.eqv, PyData.eqvAll] using q
  | cons x xs => simpa [py, pys, PyData.eqv, PyData.eqvAll] using q
def homeT (s : Int) (rs ls : List D) : D := .tup [.int s, .tup rs, .tup ls]
def meshT (many : Int) (ks bs : List D) : D := .tup [.int many, .tup ks, .tup bs]
def S_l_mesh (_ : Cs) : Spec := fun ds M Q => ∃ p s rs ls most ties, ds = [.ref p, homeT s rs ls, .int most, .int ties] ∧ M p = some .pot ∧ RulesOk s rs ∧ ListsOk s ls ∧ 1 ≤ rs.length ∧ 0 ≤ most ∧ most ≤ 60 ∧ 0 ≤ ties ∧ ties ≤ 700 ∧
  ∀ M' many ks bs, Keep M M' → 0 ≤ many → many ≤ most → MeshOk rs ls many ks bs → ks.length ≤ ties.toNat → bs.length ≤ 3 → Q (meshT many ks bs) M'
abbrev N_l_mesh : List Str := ["_law_pot_here", "_law_home_here", "_law_most", "_law_ties", "_law_turn", "_law_many", "_law_found", "_law_named", "_law_rule", "_law_one", "_law_far_one"]
def ir_l_mesh (c : Cs) : Ss := (.cons (.par3 5 6 7 (.cons (.call "_law_take" (S_l_take c) (.cons (.var 0) (.cons (.bin .Add (.var 2) (.int 1)) .nil))) (.cons (.dnew (.t c.P c.w)) (.cons (.dnew (.t c.P c.w)) .nil)))) (.cons (.ife (.cmp .Eq (.var 5) (.int 0)) (.cons (.ret (.tup (.cons (.int 0) (.cons (.tup .nil) (.cons (.tup .nil) .nil))))) .nil) .nil) (.cons (.for_ (.name 4) (.r1 (.call "_law_take" (S_l_take c) (.cons (.var 0) (.cons (.bin .Add (.var 3) (.int 1)) .nil)))) (.cons (.asg (.name 8) (.idx (.call "_law_of" (S_l_of c) (.cons (.var 0) (.cons (.bcall .list (.cons (.idx (.var 1) (.int 1)) .nil)) .nil))) (.int 0))) (.cons (.asg (.name 9) (.call "_law_take" (S_l_take c) (.cons (.var 0) (.cons (.var 5) .nil)))) (.cons (.asg (.name 10) (.call "_law_of" (S_l_of c) (.cons (.var 0) (.cons (.lst (.cons (.bin .Mod (.bin .Add (.var 9) (.int 1)) (.var 5)) (.cons (.call "_law_take" (S_l_take c) (.cons (.var 0) (.cons (.var 5) .nil))) .nil))) .nil)))) (.cons (.setK (.t c.P c.w) (.var 6) (.tup (.cons (.var 8) (.cons (.var 9) (.cons (.var 10) .nil)))) (.bl true)) .nil))))) (.cons (.for_ (.name 4) (.r1 (.bin .Mult (.call "_law_take" (S_l_take c) (.cons (.var 0) (.cons (.int 4) .nil))) (.bcall .int (.cons (.cmp .NotEq (.idx (.var 1) (.int 2)) (.tup .nil)) .nil)))) (.cons (.setK (.t c.P c.w) (.var 7) (.tup (.cons (.idx (.call "_law_of" (S_l_of c) (.cons (.var 0) (.cons (.bcall .list (.cons (.idx (.var 1) (.int 2)) .nil)) .nil))) (.int 0)) (.cons (.call "_law_take" (S_l_take c) (.cons (.var 0) (.cons (.var 5) .nil))) .nil))) (.bl true)) .nil)) (.cons (.ret (.tup (.cons (.var 5) (.cons (.bcall .tuple (.cons (.sortX (.var 6)) .nil)) (.cons (.bcall .tuple (.cons (.sortX (.var 7)) .nil)) .nil))))) .nil)))))
theorem wp_l_mesh (c : Cs) {p : Addr} {s most ties : Int} {rs ls : List D} {M : Mp} {Q : DQ} (hp : M p = some .pot) (okr : RulesOk s rs) (okl : ListsOk s ls) (r1 : 1 ≤ rs.length) (m0 : 0 ≤ most) (m1 : most ≤ 60) (t0 : 0 ≤ ties) (t1 : ties ≤ 700)
    (h : ∀ M' many ks bs, Keep M M' → 0 ≤ many → many ≤ most → MeshOk rs ls many ks bs → ks.length ≤ ties.toNat → bs.length ≤ 3 → Q (meshT many ks bs) M') :
    (ir_l_mesh c).wp (bodyEnds Q) [some (.ref p), some (homeT s rs ls), some (.int most), some (.int ties), none, none, none, none, none, none, none] M := by
  simp only [wX, ir_l_mesh, homeT]
  refine ⟨p, most + 1, rfl, hp, by omega, by omega, fun many n0 n1 => ?_⟩
  intro fp hfp np hnp
  refine ⟨_, _, _, rfl, ?_⟩
  simp only [wX]
  have nfn : fp ≠ np := fun z => by subst z; rw [up_same] at hnp; cases hnp
  have hnp' : M np = none := by rw [up_ne (Ne.symm nfn)] at hnp; exact hnp
  have k0 : Keep M (up (up M fp (.dX c.P c.w [])) np (.dX c.P c.w [])) := (Keep.new hfp).trans (.new hnp)
  have ef : up (up M fp (.dX c.P c.w [])) np (.dX c.P c.w []) fp = some (.dX c.P c.w []) := by rw [up_ne nfn]; exact up_same
  have en : up (up M fp (.dX c.P c.w [])) np (.dX c.P c.w []) np = some (.dX c.P c.w []) := up_same
  generalize up (up M fp (.dX c.P c.w [])) np (.dX c.P c.w []) = M0 at k0 ef en ⊢
  by_cases hm : many = 0
  · subst hm
    simp only [decide_true, if_true]
    exact ⟨by simp [sizeLine_eq], by simp [sizeLine_eq], by simp [sizeLine_eq], h M0 0 [] [] k0 (by decide) m0 .nil (by simp) (by simp)⟩
  simp only [hm, decide_false, Bool.false_eq_true, if_false]
  refine ⟨p, ties + 1, rfl, k0 _ _ hp, by omega, by omega, fun r r0 r1' => ⟨r, rfl, by unfold small62; omega, ?_⟩⟩
  have zr : (rngI 0 r).length ≤ ties.toNat := by rw [rng_len]; omega
  refine forGo_pos (T := ⟨rngI 0 r, fun _ => True⟩) (fun done ρ M2 => Keep M M2 ∧ (∃ kvs, M2 fp = some (.dX c.P c.w kvs) ∧ TKeys (rs.map nameD) many 2 kvs ∧ kvs.length ≤ done.length) ∧ M2 np = some (.dX c.P c.w []) ∧
    ∃ v4 v8 v9 v10, ρ = [some (.ref p), some (.tup [.int s, .tup rs, .tup ls]), some (.int most), some (.int ties), v4, some (.int many), some (.ref fp), some (.ref np), v8, v9, v10]) (fun _ _ _ _ => trivial) (rngI 0 r) [] _ M0 ⟨k0, ⟨[], ef, .nil, by simp⟩, en, _, _, _, _, rfl⟩ (fun x pre post e ρ M2 k hJ hk => ?_) fun ρ M2 hJ => ?_
  · obtain ⟨k2, ⟨kvs, hf, tk, lk⟩, hn2, v4, v8, v9, v10, rfl⟩ := hJ
    rw [List.nil_append] at lk hk
    refine ⟨_, rfl, ?_⟩
    simp only [wX]
    refine .inl ⟨_, rs, rfl, .inl rfl, fun l hl => ⟨p, l, rs, rfl, Keep.new hl _ _ (k2 _ _ hp), up_same, fun z => by rw [z] at r1; simp at r1, by have := okr.len; omega, fun y hy => ?_⟩⟩
    obtain ⟨nm, prs, rfl, hnm, _⟩ := okr.each y hy
    have k3 : Keep M2 (up M2 l (.lst rs)) := .new hl
    generalize up M2 l (.lst rs) = M3 at k3 ⊢
    simp only [wX]
    refine ⟨p, many, rfl, k3 _ _ (k2 _ _ hp), by omega, by omega, fun one o0 o1 => ?_⟩
    simp only [wX]
    refine ⟨by omega, p, many, rfl, k3 _ _ (k2 _ _ hp), by omega, by omega, fun two u0 u1 => ?_⟩
    refine ⟨by simp [sizeLine_eq], fun l2 hl2 => ⟨p, l2, _, rfl, Keep.new hl2 _ _ (k3 _ _ (k2 _ _ hp)), up_same, by simp, by simp, fun y2 hy2 => ?_⟩⟩
    obtain ⟨far, rfl, f0, f1⟩ : ∃ far : Int, y2 = .int far ∧ 0 ≤ far ∧ far < many := by
      simp only [List.mem_cons, List.not_mem_nil, or_false] at hy2
      rcases hy2 with rfl | rfl
      · exact ⟨_, rfl, Int.emod_nonneg _ (by omega), Int.emod_lt_of_pos _ (by omega)⟩
      · exact ⟨_, rfl, u0, u1⟩
    have k4 : Keep M2 (up M3 l2 (.lst [D.int ((one + 1) % many), D.int two])) := k3.trans (.new hl2)
    have zk : kvs.length ≤ 700 := by
      have := congrArg List.length e
      rw [List.length_append, List.length_cons] at this
      omega
    refine ⟨by simp [sizeLine_eq], _, k4 _ _ hf, ⟨kvs, rfl⟩, by show kvs.length < sizeLine; rw [sizeLine_eq]; omega, .dX c.P c.w (putL kvs (tkey nm [one, far]) (.bl true)), rfl, hk _ _ ⟨(k2.trans k4).put hfp, ⟨_, up_same, tk.put rfl (List.mem_map.mpr ⟨_, hy, rfl⟩) fun i hi => ?_, ?_⟩, ?_, _, _, _, _, rfl⟩⟩
    · simp only [List.mem_cons, List.not_mem_nil, or_false] at hi
      rcases hi with rfl | rfl <;> omega
    · have := put_len kvs (tkey nm [one, far]) (.bl true)
      rw [List.length_append, List.length_singleton]
      omega
    · rw [up_ne (Ne.symm nfn)]; exact k4 _ _ hn2
  · obtain ⟨k2, ⟨kvs, hf, tk, lk⟩, hn2, v4, v8, v9, v10, rfl⟩ := hJ
    rw [List.nil_append] at lk
    simp only [wX]
    refine ⟨p, 4, rfl, k2 _ _ hp, by decide, by decide, fun r4 w0 w1 => ⟨by simp [sizeLine_eq], ne_empty okl ?_⟩⟩
    simp only [wX]
    generalize hn : r4 * (if (!ls.isEmpty) = true then (1 : Int) else 0) = n2
    have hn3 : n2 ≤ 3 := by rw [← hn]; split <;> omega
    have hn0 : 0 ≤ n2 := by rw [← hn]; split <;> omega
    have hne : 0 < n2 → ls ≠ [] := fun z q => by subst q; simp at hn; omega
    refine ⟨.inr (by split <;> exact ⟨by decide, by decide⟩), by unfold small62; omega, ?_⟩
    have zk : kvs.length ≤ 700 := by omega
    have okk : TiesOk many 2 (sortD (tiesK kvs)) := tk.ok (names_ok okr.called)
    refine forGo_pos (T := ⟨rngI 0 n2, fun _ => True⟩) (fun done ρ M3 => Keep M M3 ∧ M3 fp = some (.dX c.P c.w kvs) ∧ (∃ lvs, M3 np = some (.dX c.P c.w lvs) ∧ TKeys (ls.map nameD) many 1 lvs ∧ lvs.length ≤ done.length) ∧
      ∃ v4, ρ = [some (.ref p), some (.tup [.int s, .tup rs, .tup ls]), some (.int most), some (.int ties), v4, some (.int many), some (.ref fp), some (.ref np), v8, v9, v10]) (fun _ _ _ _ => trivial) (rngI 0 n2) [] _ M2 ⟨k2, hf, ⟨[], hn2, .nil, by simp⟩, _, rfl⟩ (fun x pre post e ρ M3 k hJ hk => ?_) fun ρ M3 hJ => ?_
    · obtain ⟨k3, hf3, ⟨lvs, hn3', tl, ll⟩, v4', rfl⟩ := hJ
      rw [List.nil_append] at ll hk
      have hpos : 0 < n2 := by
        obtain ⟨i, _, i0, i1⟩ := rng_mem (x := x) (n := n2) (by rw [e]; simp)
        omega
      refine ⟨_, rfl, ?_⟩
      simp only [wX]
      refine .inl ⟨_, ls, rfl, .inl rfl, fun l hl => ⟨p, l, ls, rfl, Keep.new hl _ _ (k3 _ _ hp), up_same, hne hpos, by have := okl.len; omega, fun y hy => ?_⟩⟩
      obtain ⟨nm, ms, rfl, hnm, _⟩ := okl.each y hy
      have k4 : Keep M3 (up M3 l (.lst ls)) := .new hl
      generalize up M3 l (.lst ls) = M4 at k4 ⊢
      simp only [wX]
      refine ⟨p, many, rfl, k4 _ _ (k3 _ _ hp), by omega, by omega, fun one o0 o1 => ?_⟩
      have zl : lvs.length ≤ 3 := by
        have := congrArg List.length e
        rw [List.length_append, List.length_cons, rng_len] at this
        omega
      refine ⟨by simp [sizeLine_eq], _, k4 _ _ hn3', ⟨lvs, rfl⟩, by show lvs.length < sizeLine; rw [sizeLine_eq]; omega, .dX c.P c.w (putL lvs (tkey nm [one]) (.bl true)), rfl, hk _ _ ⟨(k3.trans k4).put hnp', ?_, ⟨_, up_same, tl.put rfl (List.mem_map.mpr ⟨_, hy, rfl⟩) fun i hi => ?_, ?_⟩, _, rfl⟩⟩
      · rw [up_ne nfn]; exact k4 _ _ hf3
      · rw [List.mem_singleton.mp hi]; omega
      · have := put_len lvs (tkey nm [one]) (.bl true)
        rw [List.length_append, List.length_singleton]
        omega
    · obtain ⟨k3, hf3, ⟨lvs, hn3', tl, ll⟩, v4', rfl⟩ := hJ
      rw [List.nil_append, rng_len] at ll
      have zl : lvs.length ≤ 3 := by omega
      have okl' : TiesOk many 1 (sortD (tiesK lvs)) := tl.ok (names_ok okl.called)
      simp only [wX]
      refine sortX_ties tk (by rw [sizeLine_eq]; omega) hf3 fun a1 ha1 => ?_
      simp only [wX]
      refine sortX_ties tl (by rw [sizeLine_eq]; omega) (Keep.new ha1 _ _ hn3') fun a2 ha2 => ?_
      simp only [wX]
      have e1 : (sortD (tiesK kvs)).length = kvs.length := by rw [len_sort]; unfold tiesK; rw [List.length_map]
      have e2 : (sortD (tiesK lvs)).length = lvs.length := by rw [len_sort]; unfold tiesK; rw [List.length_map]
      refine ⟨by simp [sizeLine_eq], h _ many _ _ (k3.trans ((Keep.new ha1).trans (.new ha2))) n0 (by omega) ⟨⟨n0, by omega, by omega, by omega, okk, okl'⟩, fun x hx => ?_, fun x hx => ?_⟩ (by rw [e1]; omega) (by omega)⟩
      · obtain ⟨nm, is, e, _, hm, _⟩ := tk.tie x (mem_sort.mp hx)
        exact ⟨nm, is, e, hm⟩
      · obtain ⟨nm, is, e, _, hm, _⟩ := tl.tie x (mem_sort.mp hx)
        exact ⟨nm, is, e, hm⟩
end DL
namespace DL
open PySem L2
def Go_ (rs : List D) (nm : Str) (i j : Int) : Prop := ∃ prs, D.tup [.str nm, .tup prs] ∈ rs ∧ D.tup [.int i, .int j] ∈ prs
def Li_ (ls : List D) (nm : Str) (i : Int) : Prop := ∃ ms, D.tup [.str nm, .tup ms] ∈ ls ∧ D.int i ∈ ms
open Classical in
noncomputable def goB (rs : List D) (nm : Str) (i j : Int) : Bool := decide (Go_ rs nm i j)
open Classical in
noncomputable def liB (ls : List D) (nm : Str) (i : Int) : Bool := decide (Li_ ls nm i)
theorem HouseAt.ins {c : Cs} {M : Mp} {hh : Addr} {n : Int} {rs ls : List D} (h : HouseAt c M hh n rs ls) : ∃ p q, M hh = some (.ins c.House (houseL (.int n) (.tup rs) (.tup ls) p q)) := by
  obtain ⟨d1, d2, kv1, kv2, e0, _⟩ := h
  exact ⟨_, _, e0⟩
end DL
namespace DL
open PySem L2
abbrev Lk := Str × Nat × Nat
abbrev Lb := Str × Nat
def lkD (l : Lk) : D := .tup [.str l.1, .int (l.2.1 : Int), .int (l.2.2 : Int)]
def lbD (b : Lb) : D := .tup [.str b.1, .int (b.2 : Int)]
structure Tied (rs ls : List D) (k : Nat) (lks : List Lk) (lbs : List Lb) : Prop where
  kn : ∀ l ∈ lks, .str l.1 ∈ rs.map nameD ∧ l.2.1 < k ∧ l.2.2 < k
  bn : ∀ b ∈ lbs, .str b.1 ∈ ls.map nameD ∧ b.2 < k
  zl : lks.length ≤ 700
  zb : lbs.length ≤ 400
  zk : k ≤ 60
def NetAt (c : Cs) (M : Mp) (nn : Addr) (k : Nat) (lks : List Lk) (lbs : List Lb) : Prop := M nn = some (.ins c.Net (netF (.int (k : Int)) (.tup (lks.map lkD)) (.tup (lbs.map lbD))))
theorem NetAt.keep {c : Cs} {M M' : Mp} {nn : Addr} {k : Nat} {lks : List Lk} {lbs : List Lb} (h : NetAt c M nn k lks lbs) (kp : Keep M M') : NetAt c M' nn k lks lbs := kp _ _ h
structure Both (c : Cs) (M : Mp) (hh nn : Addr) (n : Nat) (rs ls : List D) (k : Nat) (lks : List Lk) (lbs : List Lb) : Prop where
  h : HouseAt c M hh n rs ls
  r : RulesOk n rs
  l : ListsOk n ls
  w : NetAt c M nn k lks lbs
  t : Tied rs ls k lks lbs
theorem Both.keep {c : Cs} {M M' : Mp} {hh nn : Addr} {n : Nat} {rs ls : List D} {k : Nat} {lks : List Lk} {lbs : List Lb} (b : Both c M hh nn n rs ls k lks lbs) (kp : Keep M M') : Both c M' hh nn n rs ls k lks lbs := ⟨b.h.keep kp, b.r, b.l, b.w.keep kp, b.t⟩
theorem forGo_full {T : DIt} {g : Tg} {wb : WS} {D0 : DEnds} {full : List D} (J : List D → Ro → Mp → Prop) (keep : ∀ done ρ M, J done ρ M → T.keep M)
    (hs : ∀ x done rest, done ++ x :: rest = full → ∀ ρ M (k : Ro → Mp → Prop), J done ρ M → (∀ ρ' M', J (done ++ [x]) ρ' M' → k ρ' M') → ∃ ρ1, g.asn x ρ = some ρ1 ∧ wb { D0 with nx := k, ct := k, bk := D0.nx } ρ1 M)
    (hf : ∀ ρ M, J full ρ M → D0.nx ρ M) : ∀ (todo done : List D) (ρ : Ro) (M : Mp), done ++ todo = full → J done ρ M → forGo T g wb D0 todo ρ M
  | [], done, ρ, M, e, h => by
    unfold forGo
    rw [List.append_nil] at e
    subst e
    exact ⟨keep _ _ _ h, hf ρ M h⟩
  | x :: xs, done, ρ, M, e, h => by
    unfold forGo
    exact ⟨keep _ _ _ h, hs x done xs e ρ M (forGo T g wb D0 xs) h fun ρ' M' h' => forGo_full J keep hs hf xs (done ++ [x]) ρ' M' (by rw [← e]; simp) h'⟩
end DL
namespace DL
open PySem L2
structure LotsOk (n k : Nat) (L : List (List Int)) : Prop where
  len : L.length = k
  each : ∀ l ∈ L, ∀ x ∈ l, 0 ≤ x ∧ x < (n : Int)
  rise : ∀ l ∈ L, l.Pairwise (· < ·)
noncomputable def linkB (rs : List D) (L : List (List Int)) (l : Lk) : Bool := (L.getD l.2.1 []).all (fun m => (L.getD l.2.2 []).any fun j => goB rs l.1 m j) && (L.getD l.2.2 []).all fun m => (L.getD l.2.1 []).any fun j => goB rs l.1 j m
noncomputable def labB (ls : List D) (L : List (List Int)) (b : Lb) : Bool := (L.getD b.2 []).all fun m => liB ls b.1 m
noncomputable def holdB (rs ls : List D) (lks : List Lk) (lbs : List Lb) (L : List (List Int)) : Bool := lbs.all (labB ls L) && lks.all (linkB rs L)
theorem rise_len : ∀ {l : List Int} {lo hi : Int}, l.Pairwise (· < ·) → (∀ x ∈ l, lo ≤ x ∧ x < hi) → l.length ≤ (hi - lo).toNat
  | [], _, _, _, _ => Nat.zero_le _
  | x :: l, lo, hi, hp, h => by
    obtain ⟨h1, h2⟩ := List.pairwise_cons.mp hp
    have := rise_len (lo := x + 1) (hi := hi) h2 fun y hy => by have := h1 y hy; have := h y (List.mem_cons_of_mem _ hy); omega
    have := h x List.mem_cons_self
    rw [List.length_cons]
    omega
theorem LotsOk.lot {n k : Nat} {L : List (List Int)} (ok : LotsOk n k L) (i : Nat) : (L.getD i []).length ≤ n ∧ (∀ x ∈ L.getD i [], 0 ≤ x ∧ x < (n : Int)) := by
  by_cases h : i < L.length
  · have e : L.getD i [] = L[i] := by rw [List.getD_eq_getElem?_getD, List.getElem?_eq_getElem h]; rfl
    rw [e]
    have hm := List.getElem_mem h
    refine ⟨?_, ok.each _ hm⟩
    have := rise_len (ok.rise _ hm) (ok.each _ hm)
    omega
  · have e : L.getD i [] = [] := by rw [List.getD_eq_getElem?_getD, List.getElem?_eq_none (by omega)]; rfl
    rw [e]
    exact ⟨Nat.zero_le _, fun x hx => by cases hx⟩
end DL
namespace DL
open PySem L2
def keyL (l : Lk) : List Key := [.inr l.1, .inl (l.2.1 : Int), .inl (l.2.2 : Int)]
structure LineAt (c : Cs) (M : Mp) (wd ln : Addr) (line : List Lk) : Prop where
  ne : wd ≠ ln
  w : ∃ kvs, M wd = some (.dX c.P c.w kvs) ∧ (kvs.map Prod.fst).Perm (line.map keyL)
  l : M ln = some (.lst (line.map lkD))
  nd : line.Nodup
def Only (wd ln : Addr) (M M' : Mp) : Prop := ∀ a, a ≠ wd → a ≠ ln → M' a = M a
def put1 (line : List Lk) (l : Lk) : List Lk := if l ∈ line then line else line ++ [l]
def putF (line new : List Lk) : List Lk := new.foldl put1 line
def contF (lks : List Lk) (i : Nat) : List Lk := lks.filter fun l => decide (l.2.1 = i) || decide (l.2.2 = i)
structure KnotsAt (M0 M : Mp) (q : Addr) (k : Nat) (lks : List Lk) (as : List Addr) (cont : Nat → List Lk) : Prop where
  f : M q = some (.lst (as.map D.ref))
  len : as.length = k
  new : ∀ a ∈ as, M0 a = none ∧ a ≠ q
  at_ : ∀ i a, as[i]? = some a → M a = some (.lst ((cont i).map lkD))
  sub : ∀ i, ∀ l ∈ cont i, l ∈ lks
  z : ∀ i, (cont i).length ≤ 1400
theorem Keep.over {M M' : Mp} {a : Addr} {o : MO} (k : Keep M M') (h : M a = Option.none) : Keep M (up M' a o) := fun b u e => by
  rw [up_ne (fun z => by subst z; rw [h] at e; cases e)]
  exact k b u e
end DL
namespace DL
open PySem L2
section
variable {rs ls : List D} {lks : List Lk} {lbs : List Lb}
theorem lot_set {L : Lots} {i j : Nat} {x : List Int} (h : i < L.length) : lot (L.set i x) j = if j = i then x else lot L j := by
  unfold lot
  rw [List.getD_eq_getElem?_getD, List.getD_eq_getElem?_getD, List.getElem?_set]
  by_cases e : i = j
  · subst e; simp [h]
  · have e' : ¬ j = i := fun z => e z.symm
    simp [e, e']
def LinkOk (rs : List D) (L : Lots) (l : Lk) : Prop := (∀ m ∈ lot L l.2.1, ∃ j ∈ lot L l.2.2, goB rs l.1 m j = true) ∧ ∀ m ∈ lot L l.2.2, ∃ j ∈ lot L l.2.1, goB rs l.1 j m = true
def LabOk (ls : List D) (L : Lots) (b : Lb) : Prop := ∀ m ∈ lot L b.2, liB ls b.1 m = true
theorem linkB_iff {L : Lots} {l : Lk} : linkB rs L l = true ↔ LinkOk rs L l := by
  unfold linkB LinkOk lot
  simp [List.all_eq_true, List.any_eq_true]
theorem labB_iff {L : Lots} {b : Lb} : labB ls L b = true ↔ LabOk ls L b := by
  unfold labB LabOk lot
  simp [List.all_eq_true]
theorem holdB_iff {L : Lots} : holdB rs ls lks lbs L = true ↔ (∀ b ∈ lbs, LabOk ls L b) ∧ ∀ l ∈ lks, LinkOk rs L l := by
  unfold holdB
  rw [Bool.and_eq_true, List.all_eq_true, List.all_eq_true]
  exact ⟨fun h => ⟨fun b hb => labB_iff.mp (h.1 b hb), fun l hl => linkB_iff.mp (h.2 l hl)⟩, fun h => ⟨fun b hb => labB_iff.mpr (h.1 b hb), fun l hl => linkB_iff.mpr (h.2 l hl)⟩⟩
structure Great (rs ls : List D) (lks : List Lk) (lbs : List Lb) (B L : Lots) : Prop where
  len : L.length = B.length
  sub : ∀ i, (lot L i).Sublist (lot B i)
  hold : holdB rs ls lks lbs L = true
  most : ∀ L', In L' B → holdB rs ls lks lbs L' = true → In L' L
structure Log (rs ls : List D) (lks : List Lk) (lbs : List Lb) (ex : Lk → Prop) (B cur : Lots) (line : List Lk) : Prop where
  len : cur.length = B.length
  sub : ∀ i, (lot cur i).Sublist (lot B i)
  lab : ∀ b ∈ lbs, LabOk ls cur b
  lk : ∀ l ∈ lks, l ∉ line → ¬ ex l → LinkOk rs cur l
  inl : ∀ l ∈ line, l ∈ lks
  most : ∀ L', In L' B → holdB rs ls lks lbs L' = true → In L' cur
theorem LabOk.less {cur cur' : Lots} {b : Lb} (h : LabOk ls cur b) (s : ∀ i, ∀ x ∈ lot cur' i, x ∈ lot cur i) : LabOk ls cur' b := fun m hm => h m (s _ m hm)
noncomputable def keepB (rs : List D) (nm : Str) (a b : List Int) : List Int := a.filter fun m => b.any fun j => goB rs nm m j
theorem keepB_mem {nm : Str} {a b : List Int} {m : Int} : m ∈ keepB rs nm a b ↔ m ∈ a ∧ ∃ j ∈ b, goB rs nm m j = true := by unfold keepB; simp [List.mem_filter, List.any_eq_true]
theorem most_B {B cur L' : Lots} {nm : Str} {i j : Nat} (hl : (nm, i, j) ∈ lks) (hh : holdB rs ls lks lbs L' = true) (h : In L' cur) : ∀ x ∈ lot L' i, x ∈ keepB rs nm (lot cur i) (lot cur j) := fun x hx => by
  obtain ⟨y, hy, g⟩ := ((holdB_iff.mp hh).2 _ hl).1 x hx
  exact keepB_mem.mpr ⟨h i x hx, y, h j y hy, g⟩
theorem In.set {cur L' : Lots} {i : Nat} {x : List Int} (h : In L' cur) (hi : i < cur.length) (hx : ∀ y ∈ lot L' i, y ∈ x) : In L' (cur.set i x) := fun k y hy => by
  rw [lot_set hi]
  by_cases e : k = i
  · subst e; rw [if_pos rfl]; exact hx y hy
  · rw [if_neg e]; exact h k y hy
theorem LinkOk.other {cur : Lots} {l : Lk} {i : Nat} {x : List Int} (h : LinkOk rs cur l) (hi : i < cur.length) (h1 : l.2.1 ≠ i) (h2 : l.2.2 ≠ i) : LinkOk rs (cur.set i x) l := by
  unfold LinkOk
  rw [lot_set hi, lot_set hi, if_neg h1, if_neg h2]
  exact h
theorem Log.step {ex : Lk → Prop} {B cur : Lots} {line line' : List Lk} {i : Nat} {x : List Int} (h : Log rs ls lks lbs ex B cur line) (hi : i < cur.length) (hx : x.Sublist (lot cur i)) (hm : ∀ L', In L' B → holdB rs ls lks lbs L' = true → In L' cur → ∀ y ∈ lot L' i, y ∈ x)
    (hl : x = lot cur i ∧ line' = line ∨ (∀ l, l ∈ line' → l ∈ line ∨ l ∈ lks) ∧ (∀ l ∈ line, l ∈ line') ∧ ∀ l ∈ lks, l.2.1 = i ∨ l.2.2 = i → l ∈ line') : Log rs ls lks lbs ex B (cur.set i x) line' := by
  have sl : ∀ k, (lot (cur.set i x) k).Sublist (lot cur k) := fun k => by
    rw [lot_set hi]
    by_cases e : k = i
    · subst e; rw [if_pos rfl]; exact hx
    · rw [if_neg e]; exact .refl _
  refine ⟨by rw [List.length_set]; exact h.len, fun k => (sl k).trans (h.sub k), fun b hb => (h.lab b hb).less fun k y hy => (sl k).subset hy, fun l hl1 hn hex => ?_, fun l hl1 => ?_, fun L' a b => (h.most L' a b).set hi (hm L' a b (h.most L' a b))⟩
  · rcases hl with ⟨rfl, rfl⟩ | ⟨_, q1, q2⟩
    · have e : ∀ k, lot (cur.set i (lot cur i)) k = lot cur k := fun k => by
        rw [lot_set hi]
        by_cases e : k = i
        · subst e; rw [if_pos rfl]
        · rw [if_neg e]
      have := h.lk l hl1 hn hex
      unfold LinkOk at this ⊢
      rw [e, e]
      exact this
    · have n1 : ¬ (l.2.1 = i ∨ l.2.2 = i) := fun z => hn (q2 l hl1 z)
      exact (h.lk l hl1 (fun z => hn (q1 l z)) hex).other hi (fun z => n1 (.inl z)) fun z => n1 (.inr z)
  · rcases hl with ⟨rfl, rfl⟩ | ⟨q0, _, _⟩
    · exact h.inl l hl1
    · rcases q0 l hl1 with z | z
      · exact h.inl l z
      · exact z
theorem Log.take {B cur : Lots} {line : List Lk} {l : Lk} (h : Log rs ls lks lbs (fun _ => False) B cur (line ++ [l])) : Log rs ls lks lbs (fun y => y = l) B cur line ∧ l ∈ lks :=
  ⟨⟨h.len, h.sub, h.lab, fun y hy hn he => h.lk y hy (fun z => by
    rcases List.mem_append.mp z with z | z
    · exact hn z
    · exact he (List.mem_singleton.mp z)) id, fun y hy => h.inl y (List.mem_append_left _ hy), h.most⟩, h.inl l (by simp)⟩
end
end DL
namespace DL
open PySem L2
structure LeftAt (M0 M : Mp) (lf : Addr) (as : List Addr) (cur : Lots) : Prop where
  f0 : M0 lf = none
  f : M lf = some (.lst (as.map D.ref))
  len : as.length = cur.length
  new : ∀ a ∈ as, a ≠ lf
  at_ : ∀ i a, as[i]? = some a → M a = some (.lst ((lot cur i).map D.int))
  as0 : ∀ a ∈ as, M0 a = none
theorem LeftAt.keep {M0 M M' : Mp} {lf : Addr} {as : List Addr} {cur : Lots} (h : LeftAt M0 M lf as cur) (k : Keep M M') : LeftAt M0 M' lf as cur := ⟨h.f0, k _ _ h.f, h.len, h.new, fun i a e => k _ _ (h.at_ i a e), h.as0⟩
def Ss.at : Ss → Nat → S
  | .cons s _, 0 => s
  | .cons _ r, i + 1 => r.at i
  | .nil, _ => .pass
structure NSt (c : Cs) (M0 M : Mp) (lf ak wd ln : Addr) (k : Nat) (kas : List Addr) (cont : Nat → List Lk) (as : List Addr) (cur : Lots) (line : List Lk) : Prop where
  kp : Keep M0 M
  L : LeftAt M0 M lf as cur
  aln : ∀ a ∈ as, a ≠ ln
  ne : lf ≠ ln
  wd0 : M0 wd = none
  ln0 : M0 ln = none
  kf : M ak = some (.lst (kas.map D.ref))
  kl : kas.length = k
  ka : ∀ i a, kas[i]? = some a → M a = some (.lst ((cont i).map lkD)) ∧ a ≠ lf ∧ a ≠ ln
  akl : ak ≠ lf ∧ ak ≠ ln
  W : LineAt c M wd ln line
theorem NSt.keep {c : Cs} {M0 M M' : Mp} {lf ak wd ln : Addr} {k : Nat} {kas as : List Addr} {cont : Nat → List Lk} {cur : Lots} {line : List Lk} (s : NSt c M0 M lf ak wd ln k kas cont as cur line) (kp : Keep M M') : NSt c M0 M' lf ak wd ln k kas cont as cur line := by
  obtain ⟨kvs, w1, w2⟩ := s.W.w
  exact ⟨s.kp.trans kp, s.L.keep kp, s.aln, s.ne, s.wd0, s.ln0, kp _ _ s.kf, s.kl, fun i a e => ⟨kp _ _ (s.ka i a e).1, (s.ka i a e).2⟩, s.akl, ⟨s.W.ne, ⟨kvs, kp _ _ w1, w2⟩, kp _ _ s.W.l, s.W.nd⟩⟩
theorem NSt.wdne {c : Cs} {M0 M : Mp} {lf ak wd ln : Addr} {k : Nat} {kas as : List Addr} {cont : Nat → List Lk} {cur : Lots} {line : List Lk} (s : NSt c M0 M lf ak wd ln k kas cont as cur line) {a : Addr} {ds : List D} (h : M a = some (.lst ds)) : a ≠ wd := fun e => by
  obtain ⟨kvs, w1, w2⟩ := s.W.w
  subst e
  rw [w1] at h
  cases h
theorem NSt.line {c : Cs} {M0 M M' : Mp} {lf ak wd ln : Addr} {k : Nat} {kas as : List Addr} {cont : Nat → List Lk} {cur : Lots} {line line' : List Lk} (s : NSt c M0 M lf ak wd ln k kas cont as cur line) (o : Only wd ln M M') (W' : LineAt c M' wd ln line') : NSt c M0 M' lf ak wd ln k kas cont as cur line' := by
  have ch : ∀ a ds, M a = some (.lst ds) → a ≠ ln → M' a = some (.lst ds) := fun a ds e n => by rw [o a (s.wdne e) n]; exact e
  refine ⟨fun a u e => ?_, ⟨s.L.f0, ch _ _ s.L.f s.ne, s.L.len, s.L.new, fun i a e => ch _ _ (s.L.at_ i a e) (s.aln a (List.mem_of_getElem? e)), s.L.as0⟩, s.aln, s.ne, s.wd0, s.ln0, ch _ _ s.kf s.akl.2, s.kl, fun i a e => ⟨ch _ _ (s.ka i a e).1 (s.ka i a e).2.2, (s.ka i a e).2⟩, s.akl, W'⟩
  rw [o a (fun z => by subst z; rw [s.wd0] at e; cases e) (fun z => by subst z; rw [s.ln0] at e; cases e)]
  exact s.kp a u e
def S.body : S → Ss
  | .while_ _ b => b
  | .for_ _ _ b => b
  | _ => .nil
theorem keepB_sub {rs : List D} {nm : Str} {a b : List Int} : (keepB rs nm a b).Sublist a := List.filter_sublist
end DL
namespace DL
open PySem L2
def allM (n : Nat) : List Int := (List.range n).map fun x => ((x : Nat) : Int)
end DL
namespace DL
open PySem L2
structure ColsAt (M0 M : Mp) (q : Addr) (k : Nat) (as : List Addr) (cont : Nat → List Int) : Prop where
  f : M q = some (.lst (as.map D.ref))
  len : as.length = k
  new : ∀ a ∈ as, M0 a = none ∧ a ≠ q
  at_ : ∀ i a, as[i]? = some a → M a = some (.lst ((cont i).map D.int))
def col (rows : List (List Int)) (i : Nat) : List Int := rows.map fun m => m.getD i 0
end DL
namespace DL
open PySem L2
theorem TiesOk.sub {many : Int} {n : Nat} {xs ys : List D} (h : TiesOk many n ys) (s : xs.Sublist ys) : TiesOk many n xs := ⟨fun x hx => h.each x (s.subset hx), ris_sub h.rise s⟩
end DL
namespace DL
open PySem L2
structure Part (rs ls : List D) (lks : List Lk) (lbs : List Lb) (B cur : Lots) : Prop where
  len : cur.length = B.length
  sub : ∀ i, (lot cur i).Sublist (lot B i)
  most : ∀ L', In L' B → holdB rs ls lks lbs L' = true → In L' cur
section
variable {rs ls : List D} {lks : List Lk} {lbs : List Lb} {B cur : Lots}
theorem Part.start : Part rs ls lks lbs B B := ⟨rfl, fun _ => .refl _, fun _ h _ => h⟩
theorem Part.set (p : Part rs ls lks lbs B cur) {i : Nat} {x : List Int} (hi : i < cur.length) (hs : x.Sublist (lot cur i)) (hm : ∀ L', holdB rs ls lks lbs L' = true → In L' cur → ∀ y ∈ lot L' i, y ∈ x) : Part rs ls lks lbs B (cur.set i x) := by
  refine ⟨by rw [List.length_set]; exact p.len, fun k => ?_, fun L' h1 h2 => (p.most L' h1 h2).set hi (hm L' h2 (p.most L' h1 h2))⟩
  rw [lot_set hi]
  by_cases h : k = i
  · subst h; rw [if_pos rfl]; exact hs.trans (p.sub _)
  · rw [if_neg h]; exact p.sub k
theorem Part.one (p : Part rs ls lks lbs B cur) {nm : Str} {i j : Nat} (hl : (nm, i, j) ∈ lks) (hi : i < cur.length) : Part rs ls lks lbs B (cur.set i (keepB rs nm (lot cur i) (lot cur j))) := p.set hi keepB_sub fun L' h1 h2 => most_B (B := B) hl h1 h2
theorem LabOk.set {b : Lb} {i : Nat} {x : List Int} (h : LabOk ls cur b) (hi : i < cur.length) (hs : x.Sublist (lot cur i)) : LabOk ls (cur.set i x) b := h.less fun k y hy => by
  rw [lot_set hi] at hy
  by_cases e : k = i
  · subst e; rw [if_pos rfl] at hy; exact hs.subset hy
  · rw [if_neg e] at hy; exact hy
end
structure ByAt (M : Mp) (d : Addr) (xs : List D) : Prop where
  at_ : ∃ kvs : List (Key × D), M d = some (.dK kvs) ∧ ∀ nm v, .tup [.str nm, v] ∈ xs → atL kvs (.inr nm) = some v
theorem ByAt.keep {M M' : Mp} {d : Addr} {xs : List D} (h : ByAt M d xs) (k : Keep M M') : ByAt M' d xs := by
  obtain ⟨kvs, e, a⟩ := h.at_
  exact ⟨kvs, k _ _ e, a⟩
theorem list_t {xs : List D} {M : Mp} {Q : DQ} (q : ∀ p, M p = none → Q (.ref p) (up M p (.lst xs))) : listS [.tup xs] M Q := .inl ⟨_, _, rfl, .inl rfl, q⟩
theorem allM_len (n : Nat) : (allM n).length = n := by unfold allM; simp
end DL
namespace DL
open PySem L2
end DL
namespace DL
open PySem L2
end DL
namespace DL
open PySem L2
end DL
namespace DL
open PySem L2
section
variable {rs ls : List D} {lks : List Lk} {lbs : List Lb} {n k : Nat}
end
end DL
namespace DL
open PySem L2
section
variable {n m : Nat} {r1 l1 r2 l2 : List D}
end
end DL
namespace DL
open PySem L2
end DL
namespace DL
open PySem L2
section
variable {n m k : Nat} {r1 l1 r2 l2 : List D} {lks : List Lk} {lbs : List Lb}
theorem LotsOk.at_ {n k : Nat} {L : Lots} (ok : LotsOk n k L) {i : Nat} {x : Int} (h : x ∈ DL.lot L i) : 0 ≤ x ∧ x < (n : Int) := (LotsOk.lot ok i).2 x h
end
end DL
namespace DL
open PySem L2
inductive Gr where
  | lab (nm : Str)
  | frm (nm : Str) (j : Nat)
  | to_ (nm : Str) (j : Nat)
deriving DecidableEq
abbrev Row := Nat × Int × Gr
def grD : Gr → D
  | .lab nm => .tup [.str "label", .str nm]
  | .frm nm j => .tup [.str "from", .str nm, .int (j : Int)]
  | .to_ nm j => .tup [.str "to", .str nm, .int (j : Int)]
def rowD (r : Row) : D := .tup [.int (r.1 : Int), .int r.2.1, grD r.2.2]
abbrev Pr2 := Nat × Int
def keyP (p : Pr2) : List Key := [.inl (p.1 : Int), .inl p.2]
def kvP (p : Pr2) : List Key × D := (keyP p, .bl true)
structure Sk where
  st : List Pr2
  fd : List Row
def strikeF (s : Sk) (k : Nat) (m : Int) (g : Gr) : Sk := if (k, m) ∈ s.st then s else ⟨s.st ++ [(k, m)], s.fd ++ [(k, m, g)]⟩
noncomputable def behL (rs : List D) (n : Nat) (nm : Str) (m : Int) : List Int := (allM n).filter fun j => goB rs nm m j
noncomputable def aheL (rs : List D) (n : Nat) (nm : Str) (m : Int) : List Int := (allM n).filter fun j => goB rs nm j m
def allSt (st : List Pr2) (k : Nat) (l : List Int) : Bool := l.all fun m => decide ((k, m) ∈ st)
def strF (h w s f : D) : List (Str × D) := [("house", h), ("web", w), ("struck", s), ("found", f)]
structure StrAt (c : Cs) (M : Mp) (a hh nn d f : Addr) (s : Sk) : Prop where
  i : M a = some (.ins c.Striking (strF (.ref hh) (.ref nn) (.ref d) (.ref f)))
  d : M d = some (.dX c.P c.w (s.st.map kvP))
  f : M f = some (.lst (s.fd.map rowD))
theorem StrAt.keep {c : Cs} {M M' : Mp} {a hh nn d f : Addr} {s : Sk} (h : StrAt c M a hh nn d f s) (k : Keep M M') : StrAt c M' a hh nn d f s := ⟨k _ _ h.i, k _ _ h.d, k _ _ h.f⟩
def KeepX (d f : Addr) (M M' : Mp) : Prop := ∀ b o, b ≠ d → b ≠ f → M b = some o → M' b = some o
theorem KeepX.refl {d f : Addr} {M : Mp} : KeepX d f M M := fun _ _ _ _ e => e
theorem KeepX.trans {d f : Addr} {M M' M'' : Mp} (h : KeepX d f M M') (k : KeepX d f M' M'') : KeepX d f M M'' := fun b o h1 h2 e => k b o h1 h2 (h b o h1 h2 e)
end DL
namespace DL
open PySem L2
theorem nd_len {α : Type} [DecidableEq α] : ∀ {l m : List α}, l.Nodup → (∀ x ∈ l, x ∈ m) → l.length ≤ m.length
  | [], _, _, _ => Nat.zero_le _
  | x :: l, m, nd, h => by
    have hx := h x List.mem_cons_self
    have nd' := List.nodup_cons.mp nd
    have ih := nd_len (l := l) (m := m.erase x) nd'.2 fun y hy => (List.mem_erase_of_ne fun (e : y = x) => nd'.1 (e ▸ hy)).mpr (h y (List.mem_cons_of_mem _ hy))
    rw [List.length_erase_of_mem hx] at ih
    have : 0 < m.length := List.length_pos_of_mem hx
    rw [List.length_cons]
    omega
theorem allM_iff {n : Nat} {m : Int} : m ∈ allM n ↔ 0 ≤ m ∧ m < (n : Int) := by
  unfold allM
  rw [List.mem_map]
  constructor
  · rintro ⟨x, hx, rfl⟩
    rw [List.mem_range] at hx
    omega
  · rintro ⟨h0, h1⟩
    exact ⟨m.toNat, by rw [List.mem_range]; omega, by omega⟩
section
variable (rs ls : List D) (n K : Nat) (lks : List Lk) (lbs : List Lb)
noncomputable def al1 (l : Lk) (s : Sk) (m : Int) : Sk := if allSt s.st l.2.2 (behL rs n l.1 m) = true then strikeF s l.2.1 m (.frm l.1 l.2.2) else s
noncomputable def mv1 (l : Lk) (s : Sk) (m : Int) : Bool := allSt s.st l.2.2 (behL rs n l.1 m) && !decide ((l.2.1, m) ∈ s.st)
noncomputable def al2 (l : Lk) (s : Sk) (m : Int) : Sk := if allSt s.st l.2.1 (aheL rs n l.1 m) = true then strikeF s l.2.2 m (.to_ l.1 l.2.1) else s
noncomputable def mv2 (l : Lk) (s : Sk) (m : Int) : Bool := allSt s.st l.2.1 (aheL rs n l.1 m) && !decide ((l.2.2, m) ∈ s.st)
def on1 (b : Bool) (i : Nat) : List Nat := if b = true then [i] else []
noncomputable def alS (l : Lk) (a : Sk × List Nat) (m : Int) : Sk × List Nat := (al2 rs n l (al1 rs n l a.1 m) m, (a.2 ++ on1 (mv1 rs n l a.1 m) l.2.1) ++ on1 (mv2 rs n l (al1 rs n l a.1 m) m) l.2.2)
noncomputable def alongF (l : Lk) (s : Sk) : Sk × List Nat := (allM n).foldl (alS rs n l) (s, [])
def nextL (line : List Lk) (mv : List Nat) : List Lk := mv.foldl (fun ln i => putF ln (contF lks i)) line
noncomputable def rowB (st : List Pr2) (r : Row) : Bool := decide (r.1 < K ∧ 0 ≤ r.2.1 ∧ r.2.1 < (n : Int)) && match r.2.2 with
  | .lab nm => decide ((nm, r.1) ∈ lbs) && !liB ls nm r.2.1
  | .frm nm j => decide ((nm, r.1, j) ∈ lks) && allSt st j (behL rs n nm r.2.1)
  | .to_ nm j => decide ((nm, j, r.1) ∈ lks) && allSt st j (aheL rs n nm r.2.1)
def addK (st : List Pr2) (p : Pr2) : List Pr2 := if p ∈ st then st else st ++ [p]
def keyR (r : Row) : Pr2 := (r.1, r.2.1)
noncomputable def knownF : List Pr2 → List Pr2 → List Row → Option (List Pr2)
  | st, _, [] => some st
  | st, told, r :: R => if (rowB rs ls n K lks lbs st r && !decide (keyR r ∈ told)) = true then knownF (addK st (keyR r)) (told ++ [keyR r]) R else none
end
section
variable {rs ls : List D} {n K : Nat} {lks : List Lk} {lbs : List Lb}
structure Sk.Ok (rs ls : List D) (n K : Nat) (lks : List Lk) (lbs : List Lb) (ah : List Pr2) (s : Sk) : Prop where
  nd : s.st.Nodup
  rg : ∀ p ∈ s.st, p.1 < K ∧ 0 ≤ p.2 ∧ p.2 < (n : Int)
  kn : knownF rs ls n K lks lbs ah [] s.fd = some s.st
  fd : s.fd.length ≤ s.st.length
theorem known_more : ∀ {R : List Row} {ah told st : List Pr2} {r : Row}, knownF rs ls n K lks lbs ah told R = some st → (∀ p ∈ told, p ∈ ah) → rowB rs ls n K lks lbs st r = true → keyR r ∉ st → knownF rs ls n K lks lbs ah told (R ++ [r]) = some (st ++ [keyR r])
  | [], ah, told, st, r, h, ht, hr, hn => by
    unfold knownF at h
    injection h with h
    subst h
    rw [List.nil_append]
    unfold knownF
    rw [hr, if_pos (by simp; exact fun hm => hn (ht _ hm))]
    unfold knownF addK
    rw [if_neg hn]
  | q :: R, ah, told, st, r, h, ht, hr, hn => by
    unfold knownF at h
    rw [List.cons_append]
    unfold knownF
    split at h
    · rename_i hc
      rw [if_pos hc]
      refine known_more h (fun p hp => ?_) hr hn
      unfold addK
      rcases List.mem_append.mp hp with hp | hp
      · split
        · exact ht p hp
        · exact List.mem_append_left _ (ht p hp)
      · rw [List.mem_singleton.mp hp]
        split
        · assumption
        · exact List.mem_append_right _ (List.mem_singleton.mpr rfl)
    · cases h
theorem Sk.Ok.strike {ah : List Pr2} {s : Sk} (h : s.Ok rs ls n K lks lbs ah) {k : Nat} {m : Int} {g : Gr} (hr : rowB rs ls n K lks lbs s.st (k, m, g) = true) : (strikeF s k m g).Ok rs ls n K lks lbs ah := by
  unfold strikeF
  split
  · exact h
  · rename_i e
    refine ⟨?_, fun p hp => ?_, known_more h.kn (fun p hp => nomatch hp) hr e, by simp only [List.length_append, List.length_singleton]; exact Nat.succ_le_succ h.fd⟩
    · rw [List.nodup_append]
      refine ⟨h.nd, List.nodup_cons.mpr ⟨by simp, List.nodup_nil⟩, fun a ha b hb q => ?_⟩
      rw [List.mem_singleton] at hb
      subst hb
      subst q
      exact e ha
    · rcases List.mem_append.mp hp with hp | hp
      · exact h.rg p hp
      · rw [List.mem_singleton.mp hp]
        unfold rowB at hr
        rw [Bool.and_eq_true] at hr
        exact of_decide_eq_true hr.1
theorem Sk.Ok.len {ah : List Pr2} {s : Sk} (h : s.Ok rs ls n K lks lbs ah) : s.st.length ≤ K * n := by
  have e : ((List.range K).flatMap fun k => (allM n).map fun m => ((k, m) : Pr2)).length = K * n := by
    rw [List.length_flatMap]
    have : (List.range K).map (fun k => ((allM n).map fun m => ((k, m) : Pr2)).length) = (List.range K).map fun _ => n := List.map_congr_left fun x _ => by rw [List.length_map, allM_len]
    rw [this, List.map_const', List.length_range, List.sum_replicate_nat]
  rw [← e]
  refine nd_len h.nd fun p hp => ?_
  obtain ⟨a, b, c⟩ := h.rg p hp
  exact List.mem_flatMap.mpr ⟨p.1, List.mem_range.mpr a, List.mem_map.mpr ⟨p.2, allM_iff.mpr ⟨b, c⟩, rfl⟩⟩
theorem foldl_done {α β : Type} (f : β → α → β) (P : List α → β → Prop) : ∀ (todo done : List α) (b : β), P done b → (∀ x ∈ todo, ∀ done b, P done b → P (done ++ [x]) (f b x)) → P (done ++ todo) (todo.foldl f b)
  | [], done, b, h, _ => by rw [List.append_nil]; exact h
  | x :: todo, done, b, h, hs => by
    have := foldl_done f P todo (done ++ [x]) (f b x) (hs x List.mem_cons_self done b h) fun y hy => hs y (List.mem_cons_of_mem _ hy)
    rw [List.append_assoc] at this
    exact this
theorem strike_mem {s : Sk} {k : Nat} {m : Int} {g : Gr} {p : Pr2} : p ∈ (strikeF s k m g).st ↔ p ∈ s.st ∨ p = (k, m) := by
  unfold strikeF
  split
  · rename_i e
    exact ⟨.inl, fun h => h.elim id fun h => h ▸ e⟩
  · rw [List.mem_append, List.mem_singleton]
theorem strike_len {s : Sk} {k : Nat} {m : Int} {g : Gr} : (strikeF s k m g).st.length = s.st.length + (on1 (!decide ((k, m) ∈ s.st)) k).length := by
  unfold strikeF on1
  by_cases e : (k, m) ∈ s.st
  · rw [if_pos e]; simp [e]
  · rw [if_neg e]; simp [e]
theorem strike_same {s : Sk} {k : Nat} {m : Int} {g : Gr} (e : (k, m) ∈ s.st) : strikeF s k m g = s := by unfold strikeF; rw [if_pos e]
theorem allSt_iff {st : List Pr2} {k : Nat} {l : List Int} : allSt st k l = true ↔ ∀ m ∈ l, (k, m) ∈ st := by unfold allSt; simp [List.all_eq_true]
def Closed (rs : List D) (n : Nat) (l : Lk) (st : List Pr2) : Prop := ∀ m ∈ allM n, (allSt st l.2.2 (behL rs n l.1 m) = true → (l.2.1, m) ∈ st) ∧ (allSt st l.2.1 (aheL rs n l.1 m) = true → (l.2.2, m) ∈ st)
theorem on1_mem {b : Bool} {i j : Nat} : j ∈ on1 b i ↔ b = true ∧ j = i := by unfold on1; by_cases e : b = true <;> simp [e]
theorem on1_nil {b : Bool} {i : Nat} : on1 b i = [] ↔ b = false := by unfold on1; cases b <;> simp
theorem al1_mem {l : Lk} {s : Sk} {m : Int} {p : Pr2} : p ∈ (al1 rs n l s m).st ↔ p ∈ s.st ∨ (mv1 rs n l s m = true ∧ p = (l.2.1, m)) := by
  unfold al1 mv1
  cases e : allSt s.st l.2.2 (behL rs n l.1 m) with
  | false => simp
  | true =>
    rw [if_pos rfl, strike_mem]
    by_cases h : (l.2.1, m) ∈ s.st
    · simp only [h, decide_true, Bool.not_true, Bool.and_false, Bool.false_eq_true, false_and, or_false]
      exact ⟨fun q => q.elim id fun q => q ▸ h, .inl⟩
    · simp [h]
theorem al2_mem {l : Lk} {s : Sk} {m : Int} {p : Pr2} : p ∈ (al2 rs n l s m).st ↔ p ∈ s.st ∨ (mv2 rs n l s m = true ∧ p = (l.2.2, m)) := by
  unfold al2 mv2
  cases e : allSt s.st l.2.1 (aheL rs n l.1 m) with
  | false => simp
  | true =>
    rw [if_pos rfl, strike_mem]
    by_cases h : (l.2.2, m) ∈ s.st
    · simp only [h, decide_true, Bool.not_true, Bool.and_false, Bool.false_eq_true, false_and, or_false]
      exact ⟨fun q => q.elim id fun q => q ▸ h, .inl⟩
    · simp [h]
theorem al1_len {l : Lk} {s : Sk} {m : Int} : (al1 rs n l s m).st.length = s.st.length + (on1 (mv1 rs n l s m) l.2.1).length := by
  unfold al1 mv1
  cases e : allSt s.st l.2.2 (behL rs n l.1 m) with
  | false => simp [on1]
  | true => rw [if_pos rfl, strike_len, Bool.true_and]
theorem al2_len {l : Lk} {s : Sk} {m : Int} : (al2 rs n l s m).st.length = s.st.length + (on1 (mv2 rs n l s m) l.2.2).length := by
  unfold al2 mv2
  cases e : allSt s.st l.2.1 (aheL rs n l.1 m) with
  | false => simp [on1]
  | true => rw [if_pos rfl, strike_len, Bool.true_and]
theorem al1_same {l : Lk} {s : Sk} {m : Int} (h : mv1 rs n l s m = false) : al1 rs n l s m = s ∧ (allSt s.st l.2.2 (behL rs n l.1 m) = true → (l.2.1, m) ∈ s.st) := by
  unfold al1
  unfold mv1 at h
  cases e : allSt s.st l.2.2 (behL rs n l.1 m) with
  | false => exact ⟨by simp, fun q => nomatch q⟩
  | true =>
    rw [e, Bool.true_and] at h
    have : (l.2.1, m) ∈ s.st := by simpa using h
    exact ⟨by rw [if_pos rfl, strike_same this], fun _ => this⟩
theorem al2_same {l : Lk} {s : Sk} {m : Int} (h : mv2 rs n l s m = false) : al2 rs n l s m = s ∧ (allSt s.st l.2.1 (aheL rs n l.1 m) = true → (l.2.2, m) ∈ s.st) := by
  unfold al2
  unfold mv2 at h
  cases e : allSt s.st l.2.1 (aheL rs n l.1 m) with
  | false => exact ⟨by simp, fun q => nomatch q⟩
  | true =>
    rw [e, Bool.true_and] at h
    have : (l.2.2, m) ∈ s.st := by simpa using h
    exact ⟨by rw [if_pos rfl, strike_same this], fun _ => this⟩
theorem al1_ok {ah : List Pr2} {l : Lk} {s : Sk} {m : Int} (td : Tied rs ls K lks lbs) (hl : l ∈ lks) (hm : m ∈ allM n) (h : s.Ok rs ls n K lks lbs ah) : (al1 rs n l s m).Ok rs ls n K lks lbs ah := by
  unfold al1
  split
  · rename_i e
    obtain ⟨_, t1, t2⟩ := td.kn _ hl
    obtain ⟨m0, m1⟩ := allM_iff.mp hm
    refine h.strike ?_
    unfold rowB
    simp only [e, Bool.and_true]
    rw [Bool.and_eq_true]
    exact ⟨decide_eq_true ⟨t1, m0, m1⟩, decide_eq_true hl⟩
  · exact h
theorem al2_ok {ah : List Pr2} {l : Lk} {s : Sk} {m : Int} (td : Tied rs ls K lks lbs) (hl : l ∈ lks) (hm : m ∈ allM n) (h : s.Ok rs ls n K lks lbs ah) : (al2 rs n l s m).Ok rs ls n K lks lbs ah := by
  unfold al2
  split
  · rename_i e
    obtain ⟨_, t1, t2⟩ := td.kn _ hl
    obtain ⟨m0, m1⟩ := allM_iff.mp hm
    refine h.strike ?_
    unfold rowB
    simp only [e, Bool.and_true]
    rw [Bool.and_eq_true]
    exact ⟨decide_eq_true ⟨t2, m0, m1⟩, decide_eq_true hl⟩
  · exact h
structure Al (rs ls : List D) (n K : Nat) (lks : List Lk) (lbs : List Lb) (ah : List Pr2) (l : Lk) (s0 : Sk) (done : List Int) (a : Sk × List Nat) : Prop where
  ok : a.1.Ok rs ls n K lks lbs ah
  gr : ∀ p ∈ s0.st, p ∈ a.1.st
  nw : ∀ p ∈ a.1.st, p ∈ s0.st ∨ p.1 ∈ a.2
  at_ : ∀ i ∈ a.2, i = l.2.1 ∨ i = l.2.2
  len : a.1.st.length = s0.st.length + a.2.length
  no : a.2 = [] → a.1 = s0 ∧ ∀ m ∈ done, (allSt s0.st l.2.2 (behL rs n l.1 m) = true → (l.2.1, m) ∈ s0.st) ∧ (allSt s0.st l.2.1 (aheL rs n l.1 m) = true → (l.2.2, m) ∈ s0.st)
theorem Al.step {ah : List Pr2} {l : Lk} {s0 : Sk} {done : List Int} {a : Sk × List Nat} {m : Int} (td : Tied rs ls K lks lbs) (hl : l ∈ lks) (hm : m ∈ allM n) (h : Al rs ls n K lks lbs ah l s0 done a) : Al rs ls n K lks lbs ah l s0 (done ++ [m]) (alS rs n l a m) := by
  refine ⟨al2_ok td hl hm (al1_ok td hl hm h.ok), fun p hp => al2_mem.mpr (.inl (al1_mem.mpr (.inl (h.gr p hp)))), fun p hp => ?_, fun i hi => ?_, ?_, fun e => ?_⟩
  · show _ ∨ p.1 ∈ (a.2 ++ on1 (mv1 rs n l a.1 m) l.2.1) ++ on1 (mv2 rs n l (al1 rs n l a.1 m) m) l.2.2
    rw [List.mem_append, List.mem_append, on1_mem, on1_mem]
    rcases al2_mem.mp hp with hp | ⟨h1, rfl⟩
    · rcases al1_mem.mp hp with hp | ⟨h1, rfl⟩
      · rcases h.nw p hp with q | q
        · exact .inl q
        · exact .inr (.inl (.inl q))
      · exact .inr (.inl (.inr ⟨h1, rfl⟩))
    · exact .inr (.inr ⟨h1, rfl⟩)
  · have hi : i ∈ (a.2 ++ on1 (mv1 rs n l a.1 m) l.2.1) ++ on1 (mv2 rs n l (al1 rs n l a.1 m) m) l.2.2 := hi
    rw [List.mem_append, List.mem_append, on1_mem, on1_mem] at hi
    rcases hi with (hi | hi) | hi
    · exact h.at_ i hi
    · exact .inl hi.2
    · exact .inr hi.2
  · show (al2 rs n l (al1 rs n l a.1 m) m).st.length = _ + ((a.2 ++ on1 (mv1 rs n l a.1 m) l.2.1) ++ on1 (mv2 rs n l (al1 rs n l a.1 m) m) l.2.2).length
    rw [al2_len, al1_len, h.len, List.length_append, List.length_append]
    omega
  · have e : (a.2 ++ on1 (mv1 rs n l a.1 m) l.2.1) ++ on1 (mv2 rs n l (al1 rs n l a.1 m) m) l.2.2 = [] := e
    rw [List.append_eq_nil_iff, List.append_eq_nil_iff] at e
    obtain ⟨⟨e1, e2⟩, e3⟩ := e
    obtain ⟨f1, f2⟩ := h.no e1
    rw [on1_nil] at e2 e3
    obtain ⟨a1, a2⟩ := al1_same e2
    rw [a1] at e3
    obtain ⟨b1, b2⟩ := al2_same e3
    refine ⟨by show al2 rs n l (al1 rs n l a.1 m) m = s0; rw [a1, b1, f1], fun m' hm' => ?_⟩
    rcases List.mem_append.mp hm' with hm' | hm'
    · exact f2 m' hm'
    · rw [List.mem_singleton.mp hm']
      rw [f1] at a2 b2
      exact ⟨a2, b2⟩
theorem along_ok {ah : List Pr2} {l : Lk} {s : Sk} (td : Tied rs ls K lks lbs) (hl : l ∈ lks) (h : s.Ok rs ls n K lks lbs ah) : Al rs ls n K lks lbs ah l s (allM n) (alongF rs n l s) := by
  have := foldl_done (alS rs n l) (Al rs ls n K lks lbs ah l s) (allM n) [] (s, []) ⟨h, fun p hp => hp, fun p hp => .inl hp, fun i hi => (nomatch hi), rfl, fun _ => ⟨rfl, fun m hm => nomatch hm⟩⟩ fun m hm done a ha => ha.step td hl hm
  rw [List.nil_append] at this
  exact this
theorem put1_mem {line : List Lk} {l x : Lk} : x ∈ put1 line l ↔ x ∈ line ∨ x = l := by
  unfold put1
  split
  · rename_i e; exact ⟨.inl, fun h => h.elim id fun h => h ▸ e⟩
  · rw [List.mem_append, List.mem_singleton]
theorem put1_nd {line : List Lk} {l : Lk} (h : line.Nodup) : (put1 line l).Nodup := by
  unfold put1
  split
  · exact h
  · rename_i e
    rw [List.nodup_append]
    refine ⟨h, List.nodup_cons.mpr ⟨by simp, List.nodup_nil⟩, fun a ha b hb q => ?_⟩
    rw [List.mem_singleton] at hb
    subst hb
    subst q
    exact e ha
theorem putF_mem {new : List Lk} : ∀ {line : List Lk} {x : Lk}, x ∈ putF line new ↔ x ∈ line ∨ x ∈ new := by
  unfold putF
  induction new with
  | nil => intro line x; simp
  | cons y new ih =>
    intro line x
    rw [List.foldl_cons, ih, put1_mem, List.mem_cons]
    constructor
    · rintro ((a | a) | a)
      · exact .inl a
      · exact .inr (.inl a)
      · exact .inr (.inr a)
    · rintro (a | a | a)
      · exact .inl (.inl a)
      · exact .inl (.inr a)
      · exact .inr a
theorem putF_nd {new : List Lk} : ∀ {line : List Lk}, line.Nodup → (putF line new).Nodup := by
  unfold putF
  induction new with
  | nil => intro line h; exact h
  | cons y new ih => intro line h; rw [List.foldl_cons]; exact ih (put1_nd h)
theorem nextL_mem {mv : List Nat} : ∀ {line : List Lk} {x : Lk}, x ∈ nextL lks line mv ↔ x ∈ line ∨ ∃ i ∈ mv, x ∈ contF lks i := by
  unfold nextL
  induction mv with
  | nil => intro line x; simp
  | cons i mv ih =>
    intro line x
    rw [List.foldl_cons, ih, putF_mem]
    simp only [List.mem_cons, exists_eq_or_imp]
    constructor
    · rintro ((a | a) | a)
      · exact .inl a
      · exact .inr (.inl a)
      · exact .inr (.inr a)
    · rintro (a | a | a)
      · exact .inl (.inl a)
      · exact .inl (.inr a)
      · exact .inr a
theorem nextL_nd {mv : List Nat} : ∀ {line : List Lk}, line.Nodup → (nextL lks line mv).Nodup := by
  unfold nextL
  induction mv with
  | nil => intro line h; exact h
  | cons i mv ih => intro line h; rw [List.foldl_cons]; exact ih (putF_nd h)
theorem contF_mem {i : Nat} {l : Lk} : l ∈ contF lks i ↔ l ∈ lks ∧ (l.2.1 = i ∨ l.2.2 = i) := by unfold contF; simp [List.mem_filter]
structure Gn (rs ls : List D) (n K : Nat) (lks : List Lk) (lbs : List Lb) (ah : List Pr2) (line : List Lk) (s : Sk) : Prop where
  ok : s.Ok rs ls n K lks lbs ah
  nd : line.Nodup
  sub : ∀ l ∈ line, l ∈ lks
  cl : ∀ l ∈ lks, l ∉ line → Closed rs n l s.st
  lb : ∀ b ∈ lbs, ∀ m ∈ allM n, liB ls b.1 m = false → (b.2, m) ∈ s.st
def mu (n K : Nat) (lks line : List Lk) (s : Sk) : Nat := (K * n - s.st.length) * (lks.length + 1) + line.length
theorem Gn.next {ah : List Pr2} {line : List Lk} {l : Lk} {s : Sk} (td : Tied rs ls K lks lbs) (h : Gn rs ls n K lks lbs ah (line ++ [l]) s) :
    Gn rs ls n K lks lbs ah (nextL lks line (alongF rs n l s).2) (alongF rs n l s).1 ∧ mu n K lks (nextL lks line (alongF rs n l s).2) (alongF rs n l s).1 < mu n K lks (line ++ [l]) s := by
  have hl : l ∈ lks := h.sub l (List.mem_append_right _ (List.mem_singleton.mpr rfl))
  have A := along_ok td hl h.ok
  have nd1 : line.Nodup := (List.nodup_append.mp h.nd).1
  have nd2 := nextL_nd (lks := lks) (mv := (alongF rs n l s).2) nd1
  have sub2 : ∀ x ∈ nextL lks line (alongF rs n l s).2, x ∈ lks := fun x hx => by
    rcases nextL_mem.mp hx with hx | ⟨i, _, hx⟩
    · exact h.sub x (List.mem_append_left _ hx)
    · exact (contF_mem.mp hx).1
  refine ⟨⟨A.ok, nd2, sub2, fun x hx hn => ?_, fun b hb m hm e => A.gr _ (h.lb b hb m hm e)⟩, ?_⟩
  · have n1 : x ∉ line := fun q => hn (nextL_mem.mpr (.inl q))
    have n2 : ∀ i ∈ (alongF rs n l s).2, x.2.1 ≠ i ∧ x.2.2 ≠ i := fun i hi => ⟨fun e => hn (nextL_mem.mpr (.inr ⟨i, hi, contF_mem.mpr ⟨hx, .inl e⟩⟩)), fun e => hn (nextL_mem.mpr (.inr ⟨i, hi, contF_mem.mpr ⟨hx, .inr e⟩⟩))⟩
    have old : ∀ i, (i = x.2.1 ∨ i = x.2.2) → ∀ m, (i, m) ∈ (alongF rs n l s).1.st → (i, m) ∈ s.st := fun i hi m hm => by
      rcases A.nw _ hm with q | q
      · exact q
      · rcases hi with rfl | rfl
        · exact absurd rfl (n2 _ q).1
        · exact absurd rfl (n2 _ q).2
    have c0 : Closed rs n x s.st := by
      by_cases e : x = l
      · subst e
        have e0 : (alongF rs n x s).2 = [] := by
          cases hmv : (alongF rs n x s).2 with
          | nil => rfl
          | cons i r =>
            have hi : i ∈ (alongF rs n x s).2 := by rw [hmv]; exact List.mem_cons_self
            rcases A.at_ i hi with q | q
            · exact absurd q.symm (n2 i hi).1
            · exact absurd q.symm (n2 i hi).2
        exact (A.no e0).2
      · exact h.cl x hx fun q => by
          rcases List.mem_append.mp q with q | q
          · exact n1 q
          · exact e (List.mem_singleton.mp q)
    intro m hm
    obtain ⟨c1, c2⟩ := c0 m hm
    refine ⟨fun e => A.gr _ (c1 (allSt_iff.mpr fun y hy => old _ (.inr rfl) y (allSt_iff.mp e y hy))), fun e => A.gr _ (c2 (allSt_iff.mpr fun y hy => old _ (.inl rfl) y (allSt_iff.mp e y hy)))⟩
  · unfold mu
    have l1 := A.len
    have l2 := A.ok.len
    have l3 : (nextL lks line (alongF rs n l s).2).length ≤ lks.length := nd_len nd2 sub2
    rw [List.length_append, List.length_singleton]
    cases hmv : (alongF rs n l s).2 with
    | nil =>
      rw [hmv, List.length_nil] at l1
      have : nextL lks line [] = line := rfl
      rw [this, l1, Nat.add_zero]
      omega
    | cons i r =>
      rw [hmv, List.length_cons] at l1
      rw [hmv] at l3
      have : K * n - (alongF rs n l s).1.st.length + 1 ≤ K * n - s.st.length := by omega
      have := Nat.mul_le_mul_right (lks.length + 1) this
      rw [Nat.add_mul, Nat.one_mul] at this
      omega
structure Lbd (rs ls : List D) (n K : Nat) (lks : List Lk) (lbs : List Lb) (ah : List Pr2) (P : Lb → Int → Prop) (s : Sk) : Prop where
  ok : s.Ok rs ls n K lks lbs ah
  lb : ∀ b m, P b m → liB ls b.1 m = false → (b.2, m) ∈ s.st
end
end DL
namespace DL
open PySem L2
section
variable {rs ls : List D} {n K : Nat} {lks : List Lk} {lbs : List Lb}
end
end DL
namespace DL
open PySem L2
theorem KeepX.base {d f : Addr} {M0 M M' : Mp} (k : Keep M0 M) (h1 : M0 d = none) (h2 : M0 f = none) (x : KeepX d f M M') : Keep M0 M' := fun b o e => x b o (fun z => by subst z; rw [h1] at e; cases e) (fun z => by subst z; rw [h2] at e; cases e) (k b o e)
theorem KeepX.over {d f b : Addr} {M M' : Mp} {o : MO} (x : KeepX d f M M') (h : M b = none) : KeepX d f M (up M' b o) := fun a u h1 h2 e => by rw [up_ne (fun z => by subst z; rw [h] at e; cases e)]; exact x a u h1 h2 e
end DL
namespace DL
open PySem L2
end DL
namespace DL
open PySem L2
def delM (M : Mp) (a : Addr) : Mp := fun b => if b = a then none else M b
theorem del_same {M : Mp} {a : Addr} : delM M a a = none := by unfold delM; rw [if_pos rfl]
theorem del_ne {M : Mp} {a b : Addr} (h : b ≠ a) : delM M a b = M b := by unfold delM; rw [if_neg h]
end DL
namespace DL
open PySem L2
def Gr.nm : Gr → Str
  | .lab nm => nm
  | .frm nm _ => nm
  | .to_ nm _ => nm
inductive Thg (M : Mp) : D → Prop
  | non : Thg M .non
  | bl (b : Bool) : Thg M (.bl b)
  | int (i : Int) : Thg M (.int i)
  | str {z : Str} : lay (.str z) → z.length ≤ sizeLine → Thg M (.str z)
  | tup {ds : List D} : (∀ d ∈ ds, Thg M d) → ds.length ≤ 100000 → Thg M (.tup ds)
  | lst {a : Addr} {ds : List D} : M a = some (.lst ds) → Thg M (.ref a)
  | dict {a : Addr} {kvs : List (Key × D)} : M a = some (.dK kvs) → Thg M (.ref a)
theorem Thg.keep {M M' : Mp} (k : Keep M M') : ∀ {d : D}, Thg M d → Thg M' d := fun {d} h => by
  induction h with
  | non => exact .non
  | bl b => exact .bl b
  | int i => exact .int i
  | str h hz => exact .str h hz
  | tup h hz ih => exact .tup ih hz
  | lst e => exact .lst (k _ _ e)
  | dict e => exact .dict (k _ _ e)
theorem Thg.kn {M : Mp} {d : D} (h : Thg M d) : kn d M := by
  cases h with
  | non => exact ⟨_, rfl⟩
  | bl b => exact ⟨_, rfl⟩
  | int i => exact ⟨_, rfl⟩
  | str h hz => exact ⟨_, rfl⟩
  | tup h hz => exact ⟨_, rfl⟩
  | lst e => exact ⟨"list", by show kindO (M _) = _; rw [e]; rfl⟩
  | dict e => exact ⟨"dict", by show kindO (M _) = _; rw [e]; rfl⟩
end DL
namespace DL
open PySem L2
end DL
namespace DL
open PySem L2
section
variable {rs ls : List D} {n K : Nat} {lks : List Lk} {lbs : List Lb}
end
end DL
namespace DL
open PySem L2
end DL
namespace DL
open PySem L2
end DL
namespace DL
open PySem L2
end DL
namespace DL
open PySem L2
section
variable {rs ls : List D} {n K : Nat} {lks : List Lk} {lbs : List Lb}
end
end DL
namespace DL
open PySem PySem.Spec PyProof.Rows L2
section
variable {P : Program} {w : World} {K : PySem.W.Frag} {mg : Str → Option Value} {base : Heap} {x qual : Str} {params : Arguments} {body : List Stmt} {scope : Scope} {dvs : List V} {kws : List (Str × V)} {f : Addr} {fd : FuncData} {ps : List Str} {k : Nat} {S : Spec}
def Pr (P : Program) (w : World) (K : PySem.W.Frag) (mg : Str → Option Value) (base : Heap) (k : Nat) (x : Str) (n : Nat) (ks : List Str) (S : Spec) : Prop := ∀ A, Room k A → Callee ⟨P, w, K, mg, base, A⟩ x n ks S
def PrG (P : Program) (w : World) (K : PySem.W.Frag) (mg : Str → Option Value) (base : Heap) (k : Nat) (x : Str) (n : Nat) (ks : List Str) (S : Spec) : Prop := ∀ A, Room k A → A.guards = some [] → Callee ⟨P, w, K, mg, base, A⟩ x n ks S
def PrO (P : Program) (w : World) (K : PySem.W.Frag) (mg : Str → Option Value) (base : Heap) (k : Nat) (C : Addr) (m : Str) (S : Spec) : Prop := ∀ A, Room k A → OwnM ⟨P, w, K, mg, base, A⟩ C m S
theorem kbn_of (F : FunD K x qual params body scope [] kws f fd) (n : Nat) (ks : List Str)
    (h : ∀ (kV doc pm : Value) (an : Option Addr) (cdv ct : Value) (us ws : List Value), us.length = n → ws.length = ks.length → bindArgs (PySem.W.fnOf x qual params body scope .none kV doc pm an cdv ct) ⟨us, ks.zip ws⟩ = pure (ps.zip (us ++ ws))) : KBn K fd ps n ks (fun us ws => us ++ ws) (fun vs zs => vs ++ zs) := by
  obtain ⟨oc, od, dV, kV, doc, pm, an, cdv, ct, osl, rfl, lk, hcd, hD, hK⟩ := F.ex
  rcases hD with ⟨_, rfl⟩ | ⟨e, _⟩
  · exact ⟨fun s us ws _ l1 l2 => .of_eq (h kV doc pm an cdv ct us ws l1 l2), fun r1 r2 => r1.append r2⟩
  · exact absurd rfl e
theorem Pr.fn (F : FnOk P w K mg base CX0 k f fd ps (spD K S)) (hm : mg x = some (.ref f)) (hk : PySem.W.keepIn K (.ref f) = true) (hb : Binds K fd ps []) (n : Nat) : Pr P w K mg base k x n [] S := fun A hr => Callee.fn (c := ⟨P, w, K, mg, base, A⟩) F hr hm hk hb
theorem Pr.never {n : Nat} {ks : List Str} (hm : mg x = some (.ref f)) (hk : PySem.W.keepIn K (.ref f) = true) (hS : ∀ ds M Q, ¬ S ds M Q) : Pr P w K mg base k x n ks S := fun A hr => by
  refine ⟨f, hm, hk, ?_⟩
  rintro X e hc pins s σ H Q us ws vs zs I r rz hl hz h
  obtain ⟨ds, M, F', Q0, _, _, _, h, _⟩ := h
  exact (hS _ _ _ h).elim
theorem Pr.fnG (F : FnG P w K mg base k f fd ps S) (hm : mg x = some (.ref f)) (hk : PySem.W.keepIn K (.ref f) = true) (hb : Binds K fd ps []) (n : Nat) : PrG P w K mg base k x n [] S := fun A hr hg => Callee.fnG (c := ⟨P, w, K, mg, base, A⟩) F hr hg hm hk hb
theorem Pr.make {n : Nat} {ks : List Str} {C : Addr} (Mk' : Mk K C f) (F : FnOk P w K mg base CX0 k f fd ps (spD K S)) (hm : mg x = some (.ref C)) (hb : KBn K fd ps (n + 1) ks (fun us ws => us ++ ws) (fun vs zs => vs ++ zs)) : Pr P w K mg base (k + 1) x n ks (makeS C S id) := fun A hr =>
  Callee.makeK (c := ⟨P, w, K, mg, base, A⟩) Mk' F hr hm hb fun H ds vs zs l1 l2 r z => by
    show Reps K H (.ref z :: ds) (.ref z :: vs ++ zs)
    rw [List.cons_append]
    exact .cons rfl r
def GlD (K : PySem.W.Frag) (mg : Str → Option Value) (x : Str) (d : D) : Prop := ∃ u v, mg x = some u ∧ RelV v u ∧ ∀ H, Rep K H d v
theorem gld_int {i : Int} (h : ∃ t, mg x = some (.int i t)) : GlD K mg x (.int i) := by
  obtain ⟨t, e⟩ := h
  exact ⟨_, .int i, e, ⟨t, rfl⟩, fun H => rfl⟩
theorem gld_str {z : Str} (h : ∃ t, mg x = some (.str z t)) : GlD K mg x (.str z) := by
  obtain ⟨t, e⟩ := h
  exact ⟨_, .str z, e, ⟨t, rfl⟩, fun H => rfl⟩
theorem own_of {C : Addr} {m : Str} (F : FnOk P w K mg base CX0 k f fd ps (spD K S)) (hb : Binds K fd ps []) (hM : Meth K C m f) : PrO P w K mg base (k + 1) C m S := fun A hr => ⟨k, f, fd, ps, F, hr, hb, hM.1, hM.2⟩
end
theorem pot_in {K : PySem.W.Frag} {H : Hp} {M : Mp} {p : Addr} {Fr : Addr → Prop} (m : RepM K H M) (hp : M p = some .pot) (fr : FrOk Fr H M) : ∃ g n, PotOk g n ∧ RepM K H (up M p (.lst [.int g, .int n])) ∧ FrOk Fr H (up M p (.lst [.int g, .int n])) := by
  obtain ⟨g, n, h1, h2⟩ := m p _ hp
  refine ⟨g, n, h2, fun a o e => ?_, fun a ha => ?_⟩
  · by_cases z : a = p
    · subst z
      rw [up_same] at e
      cases e
      exact ⟨_, h1, .cons rfl (.cons rfl .nil)⟩
    · rw [up_ne z] at e
      exact m a o e
  · have ne : a ≠ p := fun z => by have q := (fr a ha).2; rw [z, hp] at q; cases q
    rw [up_ne ne]
    exact fr a ha
theorem pot_out {K : PySem.W.Frag} {H H' : Hp} {M : Mp} {p : Addr} {Fr : Addr → Prop} {g n : Int} (ok : PotOk g n) (m : RepM K H' (up M p (.lst [.int g, .int n]))) (fr : Frm Fr H H' (up M p (.lst [.int g, .int n]))) : RepM K H' (up M p .pot) ∧ Frm Fr H H' (up M p .pot) := by
  refine ⟨fun a o e => ?_, fun a ha => ?_⟩
  · by_cases z : a = p
    · subst z
      rw [up_same] at e
      cases e
      obtain ⟨vs, h1, h2⟩ := m a _ up_same
      unfold Reps at h2
      obtain ⟨v, r, rfl, hv, h2⟩ := h2
      unfold Reps at h2
      obtain ⟨v', r, rfl, hv', h2⟩ := h2
      unfold Reps at h2
      subst h2
      cases hv
      cases hv'
      exact ⟨g, n, h1, ok⟩
    · rw [up_ne z] at e
      exact m a o (by rw [up_ne z]; exact e)
  · have h := fr a ha
    by_cases z : a = p
    · subst z
      rw [up_same] at h
      cases h.2
    · rw [up_ne z] at h ⊢
      exact h
theorem up_up {M : Mp} {p : Addr} {o o' : MO} : up (up M p o) p o' = up M p o' := by
  funext a
  unfold up
  by_cases h : a = p <;> simp [h]
theorem up_eq {M : Mp} {p : Addr} {o : MO} (h : M p = some o) : up M p o = M := by
  funext a
  unfold up
  by_cases e : a = p
  · subst e; simp [h]
  · simp [e]
theorem clsB_ok {K : PySem.W.Frag} {C : Addr} (hc : Cls K C) (h : clsB K C = true) : ClsF K C := by
  obtain ⟨h1, h⟩ := band h
  obtain ⟨h2, h⟩ := band h
  obtain ⟨h3, h⟩ := band h
  obtain ⟨h4, h5⟩ := band h
  exact ⟨hc, He.eqO_ok h1, He.eqO_ok h2, of_decide_eq_true h3, of_decide_eq_true h4, fun k hk => of_decide_eq_true (List.all_eq_true.mp h5 k hk)⟩
theorem noLst_ok {K : PySem.W.Frag} {h : Heap} {a : Addr} {o : Obj} (kin : K.In h) (hn : noLst K = true) (ha : h.get? a = some o) (ho : o.cls = .type "list") : K.lookup a = none := by
  cases e : K.lookup a with
  | none => rfl
  | some u =>
    have e1 := kin a u e
    rw [ha] at e1
    cases e1
    have e2 := List.all_eq_true.mp hn _ (He.lookup_mem e)
    simp only [ho] at e2
    simp at e2
theorem walk_ofG {l : PySem.W.OpenLaw} {n k : Nat} {q : Program} {loose : List Str} {XP : (Str → Option Value) → Heap → Prop} {YP : World → Heap → Prop} {d : DefRec} {x : Str}
    (hn : l.most = some n) (hn2 : n ≤ sizeLine) (hdf : d.params.defaults = []) (hr : Room k callerA)
    (F : ∀ (w : World) (mg : Str → Option Value) (fa : Addr) (h : Heap), YP w h → h.Ns mainGlobals mg → mg d.name = some (.ref fa) →
      ∃ (K : PySem.W.Frag) (fd : FuncData) (S : Spec), K.In h ∧ noLst K = true ∧ (∀ (s : Shared) (u : Value), BindsTo s fd ⟨[u], []⟩ [(x, u)]) ∧
        (∀ (a : Addr) (ns : List Int) (M : Mp), ns.length ≤ n → M a = some (.scr ns) → S [.ref a] M fun d _ => d = .bl true) ∧
        ∀ base : Heap, K.In base → base.Ns mainGlobals mg → base.NoDigits → FnG l.prog w K mg base k fa fd [x] S) :
    PySem.W.WalkO q loose XP YP l.row.toRowW d [] (fun f vs => PySem.call f vs) := by
  refine Att.attach_call hn hdf fun w s₀ s₁ mg mb fa o pm cd doc a vs ns G Y ho hd hcd hmg hobj hints hlen hg => ?_
  obtain ⟨K, fd, S, KX, hnl, hb, hS, hF⟩ := F w mg fa _ Y G.T.g hmg
  exact law_end KX G.T.g G.T.b G.T.builtins G.T.nolimit G.T.nodigits hg hobj hints (Nat.le_trans hlen hn2) hr (noLst_ok KX hnl hobj rfl) hF hb fun b M hM => hS b ns M hlen hM
end DL
namespace DL
open PySem PySem.Spec PyProof.Rows L2
section
variable {P : Program} {w : World} {K : PySem.W.Frag} {mg : Str → Option Value} {base : Heap} {x qual : Str} {params : Arguments} {body : List Stmt} {scope : Scope} {kws : List (Str × V)} {f : Addr} {fd : FuncData} {ps : List Str} {k : Nat} {S : Spec}
theorem etB_ok {a : Addr} (h : etB K a = true) (H : Hp) : SqT K H a [] := by
  unfold etB at h
  split at h
  · rename_i t _ its _ _ e
    rw [Bool.and_eq_true] at h
    have e1 : t = "tuple" := by simpa using h.1
    have e2 : its = #[] := by simpa using h.2
    subst e1
    subst e2
    exact .inr ⟨_, #[], _, e, rfl, rfl, by simp [sizeLine_eq], .nil⟩
  · cases h
end
end DL
namespace DL
open PySem L2
theorem szs_0 {d : D} {ds : List D} (h : szs (d :: ds)) : sz d := by unfold szs at h; exact h.1
theorem use_is_whole (c : Cs) (ds : List D) (M : Mp) (Q : DQ) (z : szs ds) (zm : szM M) (h : S_is_whole c ds M Q) : (ir_is_whole c).wp (bodyEnds Q) (startD N_is_whole ds) M := by
  obtain ⟨d, lo, hi, rfl, hk, h⟩ := h
  exact wp_is_whole c hk h
theorem use_are_whole (c : Cs) (ds : List D) (M : Mp) (Q : DQ) (z : szs ds) (zm : szM M) (h : S_are_whole c ds M Q) : (ir_are_whole c).wp (bodyEnds Q) (startD N_are_whole ds) M := by
  obtain ⟨d, lo, hi, rfl, hk, h⟩ := h
  exact wp_are_whole c (szs_0 z) hk h
theorem use_is_name (c : Cs) (ds : List D) (M : Mp) (Q : DQ) (z : szs ds) (zm : szM M) (h : S_is_name c ds M Q) : (ir_is_name c).wp (bodyEnds Q) (startD N_is_name ds) M := by
  obtain ⟨d, rfl, hk, hl, h⟩ := h
  exact wp_is_name c hk hl h
theorem use_are_rising (c : Cs) (ds : List D) (M : Mp) (Q : DQ) (z : szs ds) (zm : szM M) (h : S_are_rising c ds M Q) : (ir_are_rising c).wp (bodyEnds Q) (startD N_are_rising ds) M := by
  obtain ⟨d, xs, rfl, hs, hc, h⟩ := h
  refine wp_are_rising c hs ?_ hc h
  rcases hs with rfl | ⟨a, rfl, ha⟩
  · exact (sz_tup (szs_0 z)).1
  · exact (zm a xs ha).1
theorem use_are_ties (c : Cs) (ds : List D) (M : Mp) (Q : DQ) (z : szs ds) (zm : szM M) (h : S_are_ties c ds M Q) : (ir_are_ties c).wp (bodyEnds Q) (startD N_are_ties ds) M := by
  obtain ⟨d, knots, size, most, rfl, h1, hk, ht, h⟩ := h
  exact wp_are_ties c (szs_0 z) h1 hk ht h
theorem use_Net_init (c : Cs) (ds : List D) (M : Mp) (Q : DQ) (z : szs ds) (zm : szM M) (h : S_Net_init c ds M Q) : (ir_Net_init c).wp (bodyEnds Q) (startD N_Net_init ds) M := by
  obtain ⟨p, knots, ls, bs, rfl, hp, ok, h⟩ := h
  exact wp_Net_init c hp ok h
theorem use_Net_len (c : Cs) (ds : List D) (M : Mp) (Q : DQ) (z : szs ds) (zm : szM M) (h : S_Net_len_ c ds M Q) : (ir_Net_len c).wp (bodyEnds Q) (startD N_Net_len ds) M := by
  obtain ⟨p, knots, l, b, rfl, hp, k0, k1, h⟩ := h
  exact wp_Net_len c hp k0 k1 h
theorem use_l_of (c : Cs) (ds : List D) (M : Mp) (Q : DQ) (z : szs ds) (zm : szM M) (h : S_l_of c ds M Q) : (ir_l_of c).wp (bodyEnds Q) (startD N_l_of ds) M := by
  obtain ⟨p, q, xs, rfl, hp, hq, hx, hz, h⟩ := h
  exact wp_l_of c hp hq hx hz h
theorem use_l_all_pairs (c : Cs) (ds : List D) (M : Mp) (Q : DQ) (z : szs ds) (zm : szM M) (h : S_l_all_pairs c ds M Q) : (ir_l_all_pairs c).wp (bodyEnds Q) (startD N_l_all_pairs ds) M := by
  obtain ⟨s, rfl, h0, h4, h⟩ := h
  exact wp_l_all_pairs c h0 h4 h
theorem use_l_pairs (c : Cs) (ds : List D) (M : Mp) (Q : DQ) (z : szs ds) (zm : szM M) (h : S_l_pairs c ds M Q) : (ir_l_pairs c).wp (bodyEnds Q) (startD N_l_pairs ds) M := by
  obtain ⟨p, s, rfl, hp, h0, h4, h⟩ := h
  exact wp_l_pairs c hp h0 h4 h
theorem use_l_names (c : Cs) (ds : List D) (M : Mp) (Q : DQ) (z : szs ds) (zm : szM M) (h : S_l_names c ds M Q) : (ir_l_names c).wp (bodyEnds Q) (startD N_l_names ds) M := by
  obtain ⟨p, many, rfl, hp, hm, h⟩ := h
  exact wp_l_names c hp hm h
theorem use_l_home (c : Cs) (ds : List D) (M : Mp) (Q : DQ) (z : szs ds) (zm : szM M) (h : S_l_home c ds M Q) : (ir_l_home c).wp (bodyEnds Q) (startD N_l_home ds) M := by
  obtain ⟨p, most, rfl, hp, h1, h4, h⟩ := h
  exact wp_l_home c hp h1 h4 h
theorem use_l_mesh (c : Cs) (ds : List D) (M : Mp) (Q : DQ) (z : szs ds) (zm : szM M) (h : S_l_mesh c ds M Q) : (ir_l_mesh c).wp (bodyEnds Q) (startD N_l_mesh ds) M := by
  obtain ⟨p, s, rs, ls, most, ties, rfl, hp, okr, okl, r1, m0, m1, t0, t1, h⟩ := h
  exact wp_l_mesh c hp okr okl r1 m0 m1 t0 t1 h
theorem useP_l_take (c : Cs) {K : PySem.W.Frag} (H : Hp) (ds : List D) (M : Mp) (Fr : Addr → Prop) (Q : DQ) (z : szs ds) (zm : szM M) (m : RepM K H M) (fr : FrOk Fr H M) (h : S_l_take c ds M Q) :
    ∃ M1 Q1, RepM K H M1 ∧ FrOk Fr H M1 ∧ (ir_l_take c).wp (bodyEnds Q1) (startD N_l_take ds) M1 ∧ ∀ d M' H', Q1 d M' → RepM K H' M' → Frm Fr H H' M' → ∃ M2, RepM K H' M2 ∧ Frm Fr H H' M2 ∧ Q d M2 := by
  obtain ⟨p, upto, rfl, hp, h0, h1, h⟩ := h
  obtain ⟨g, n, ok, m1, fr1⟩ := pot_in m hp fr
  refine ⟨_, fun d M' => ∃ r g' m', d = .int r ∧ 0 ≤ r ∧ r < upto ∧ PotOk g' m' ∧ M' = up M p (.lst [.int g', .int m']), m1, fr1, wp_l_take c h0 h1 ok up_same fun r g' m' r0 r1 ok' => ⟨r, g', m', rfl, r0, r1, ok', up_up⟩, fun d M' H' q r f => ?_⟩
  obtain ⟨v, g', m', rfl, r0, r1, ok', rfl⟩ := q
  obtain ⟨a1, a2⟩ := pot_out ok' r f
  rw [up_eq hp] at a1 a2
  exact ⟨M, a1, a2, h v r0 r1⟩
theorem useP_l_pot (c : Cs) {K : PySem.W.Frag} (H : Hp) (ds : List D) (M : Mp) (Fr : Addr → Prop) (Q : DQ) (z : szs ds) (zm : szM M) (m : RepM K H M) (fr : FrOk Fr H M) (h : S_l_pot c ds M Q) :
    ∃ M1 Q1, RepM K H M1 ∧ FrOk Fr H M1 ∧ (ir_l_pot c).wp (bodyEnds Q1) (startD N_l_pot ds) M1 ∧ ∀ d M' H', Q1 d M' → RepM K H' M' → Frm Fr H H' M' → ∃ M2, RepM K H' M2 ∧ Frm Fr H H' M2 ∧ Q d M2 := by
  obtain ⟨a, ns, k, rfl, ha, hz, h0, h1, h⟩ := h
  refine ⟨M, fun d M' => ∃ p g' m', d = .ref p ∧ M p = none ∧ PotOk g' m' ∧ M' = up M p (.lst [.int g', .int m']), m, fr, wp_l_pot c ha hz h0 h1 fun p g' m' hp ok' => ⟨p, g', m', rfl, hp, ok', rfl⟩, fun d M' H' q r f => ?_⟩
  obtain ⟨p, g', m', rfl, hp, ok', rfl⟩ := q
  obtain ⟨a1, a2⟩ := pot_out ok' r f
  exact ⟨_, a1, a2, h _ p (.new hp) hp up_same⟩
end DL
namespace DL
open PySem L2
end DL
namespace DL
open PySem L2
end DL
namespace DL
open PySem L2
end DL
namespace DL
open PySem L2
end DL
namespace DL
open PySem L2
theorem Tied.names {r1 l1 r2 l2 : List D} {k : Nat} {lks : List Lk} {lbs : List Lb} (t : Tied r1 l1 k lks lbs) (er : r1.map nameD = r2.map nameD) (el : l1.map nameD = l2.map nameD) : Tied r2 l2 k lks lbs :=
  ⟨fun l hl => by rw [← er]; exact t.kn l hl, fun l hl => by rw [← el]; exact t.bn l hl, t.zl, t.zb, t.zk⟩
section
variable {r1 l1 r2 l2 : List D} {n m : Nat} {w : List Int}
end
end DL
namespace DL
open PySem PySem.Spec PyProof.Rows L2
section
variable {P : Program} {w : World} {K : PySem.W.Frag} {mg : Str → Option Value} {base : Heap} {x qual : Str} {params : Arguments} {body : List Stmt} {scope : Scope} {kws : List (Str × V)} {f : Addr} {fd : FuncData} {ps : List Str} {k : Nat} {S : Spec}
theorem Pr.makeD2 {n : Nat} {ks : List Str} {C a b : Addr} {nm nm2 : Str} (Mk' : Mk K C f) (F : FnOk P w K mg base CX0 k f fd ps (spD K S)) (hm : mg x = some (.ref C)) (he : etB K a = true) (hf : etB K b = true)
    (hb : ∃ mv : List Value, KBn K fd ps (n + 1) ks (fun us ws => us ++ ws ++ mv) (fun vs zs => vs ++ zs ++ [V.ref a, V.ref b])) : Pr P w K mg base (k + 1) x n ks (makeS C S fun ds => ds ++ [.tup [], .tup []]) := fun A hr => by
  obtain ⟨mv, hb⟩ := hb
  refine Callee.makeK (c := ⟨P, w, K, mg, base, A⟩) (gD := fun ds => ds ++ [.tup [], .tup []]) Mk' F hr hm hb fun H ds vs zs l1 l2 r z => ?_
  show Reps K H (.ref z :: (ds ++ [.tup [], .tup []])) (.ref z :: vs ++ zs ++ [V.ref a, V.ref b])
  rw [List.cons_append, List.cons_append]
  refine .cons rfl ?_
  have one : ∀ {q : Addr}, etB K q = true → Rep K H (.tup []) (.ref q) := fun {q} h => by
    unfold Rep
    exact ⟨q, [], rfl, etB_ok h H, by unfold Reps; rfl⟩
  rw [show ds ++ [D.tup [], .tup []] = ds ++ [D.tup []] ++ [D.tup []] by simp, show vs ++ zs ++ [V.ref a, V.ref b] = vs ++ zs ++ [V.ref a] ++ [V.ref b] by simp]
  exact Reps.snoc (Reps.snoc r (one he)) (one hf)
theorem kbn_less2 (F : FunD K x qual params body scope [] kws f fd) (n : Nat) (ks : List Str) (nm nm2 : Str) (a b : Addr) (hq : (nm, V.ref a) ∈ kws) (hq2 : (nm2, V.ref b) ∈ kws)
    (h : ∀ (D : Addr) (doc pm : Value) (an : Option Addr) (cdv ct : Value) (us ws : List Value) (u v : Value), us.length = n → ws.length = ks.length → KwChain D [(nm, u), (nm2, v)] (bindArgs (PySem.W.fnOf x qual params body scope .none (.ref D) doc pm an cdv ct) ⟨us, ks.zip ws⟩) (ps.zip (us ++ ws ++ [u, v]))) :
    ∃ mv : List Value, KBn K fd ps n ks (fun us ws => us ++ ws ++ mv) (fun vs zs => vs ++ zs ++ [V.ref a, V.ref b]) := by
  refine FunD.kbinds0 F n ks [(nm, V.ref a), (nm2, V.ref b)] (fun us mv ws => us ++ ws ++ mv) (fun z => by rw [z] at hq; cases hq) (fun q hq' => ?_) (fun r1 r2 r3 => (r1.append r3).append r2) fun D doc pm an cdv ct us mv ws l1 l2 l3 => ?_
  · rcases List.mem_cons.mp hq' with rfl | hq'
    · exact hq
    · rw [List.mem_singleton] at hq'; rw [hq']; exact hq2
  match mv, l2 with
  | [u, v], _ => exact h D doc pm an cdv ct us ws u v l1 l3
end
end DL
namespace DL
open PySem L2
end DL
namespace DL
open PySem L2
abbrev DX := Ro → Addr → Option Addr → Mp → Prop
abbrev DXE := Addr → Option Addr → Mp → Prop
abbrev XSpec := List D → Mp → DQ → DXE → Prop
abbrev WEX := Ro → Mp → DQ → DX → Prop
abbrev WSX := DX → DEnds → Ro → Mp → Prop
variable {K : PySem.W.Frag}
def GoX (K : PySem.W.Frag) (F : Addr → Prop) (H : Hp) (X0 : DX) (W : WX) : Prop := ∀ ρ' C d M' σ' H', X0 ρ' C d M' → TupS K H H' → Frm F H H' M' → Stt K H' σ' ρ' M' F → W (.ref C) d σ' H'
theorem GoX.from {F : Addr → Prop} {H H1 : Hp} {M1 : Mp} {X0 : DX} {W : WX} (g : GoX K F H X0 W) (t : TupS K H H1) (f : Frm F H H1 M1) : GoX K F H1 X0 W := fun ρ' C d M' σ' H' q t' f' s => g ρ' C d M' σ' H' q (t.trans t') (f.trans f') s
def GoE (K : PySem.W.Frag) (F : Addr → Prop) (H : Hp) (E0 : DXE) (E : XK) : Prop := ∀ C d M' H', E0 C d M' → TupS K H H' → Frm F H H' M' → RepM K H' M' → E (.ref C) d H'
def rDX (K : PySem.W.Frag) (S : XSpec) : List V → Hp → VK → XK → Prop := fun vs H Q E => ∃ ds M F Q0 E0, Reps K H ds vs ∧ RepM K H M ∧ FrOk F H M ∧ S ds M Q0 E0 ∧ Go K F H Q0 Q ∧ GoE K F H E0 E
def spDX (K : PySem.W.Frag) (S : XSpec) : Sp := fun vs H Q E => rDX K S vs H Q E
theorem rDX.len {S : XSpec} {n : Nat} (hS : ∀ ds M Q E, S ds M Q E → ds.length = n) {vs : List V} {H : Hp} {Q : VK} {E : XK} (h : rDX K S vs H Q E) : vs.length = n := by
  obtain ⟨ds, M, F, Q0, E0, r, _, _, h, _⟩ := h
  rw [← r.length]
  exact hS _ _ _ _ h
def CalleeX (c : Co) (x : Str) (n : Nat) (ks : List Str) (S : XSpec) : Prop := ∃ f, c.mg x = some (.ref f) ∧ PySem.W.keepIn c.K (.ref f) = true ∧
  ∀ (X : Cx), co X = c → X.calm = true → ∀ (W : WX), Takes X W → ∀ (pins : List (Addr × Obj)) (s : Shared) (σ : St) (H : Hp) (Q : VK) (us ws : List Value) (vs zs : List V), Inv X pins σ H s → Vals vs us → Vals zs ws → vs.length = n → zs.length = ks.length →
    rDX X.K S (vs ++ zs) H Q (L2.WE W σ) → wpAny (model X.prog X.w) X.A (call (.ref f) us (ks.zip ws)) (EP X pins σ Q) X.xe s
theorem CalleeX.fn {c : Co} {x : Str} {n k : Nat} {S : XSpec} {f : Addr} {fd : FuncData} {ps : List Str} (F : FnOk c.prog c.w c.K c.mg c.base (L2.CX c.prog c.w) k f fd ps (spDX c.K S)) (hr : Room k c.A) (hm : c.mg x = some (.ref f)) (hk : PySem.W.keepIn c.K (.ref f) = true) (hb : Binds c.K fd ps []) : CalleeX c x n [] S := by
  refine ⟨f, hm, hk, ?_⟩
  rintro X rfl hc W tk pins s σ H Q us ws vs zs I r rz hl hz h
  have e : zs = [] := List.eq_nil_of_length_eq_zero hz
  subst e
  cases rz
  rw [List.append_nil] at h
  exact run_fnS (E := L2.WE W) F hr hb (passAt tk σ) I r h
def tDE (K : PySem.W.Frag) (W : WX) (w : WEX) : TE := fun σ H Q => ∃ ρ M F Q0 X0, Stt K H σ ρ M F ∧ w ρ M Q0 X0 ∧ Go K F H Q0 Q ∧ GoX K F H X0 W
def wCallX (S : XSpec) (u : WA) : WEX := fun ρ M Q E => u ρ M fun ds M1 => S ds M1 Q (E ρ)
def wCallKX (S : XSpec) (u uk : WA) : WEX := fun ρ M Q E => u ρ M fun ds M1 => uk ρ M1 fun es M2 => S (ds ++ es) M2 Q (E ρ)
theorem gox_at {F : Addr → Prop} {H H1 : Hp} {M1 : Mp} {X0 : DX} {W : WX} {ρ : Ro} {σ : St} (g : GoX K F H X0 W) (s1 : Stt K H1 σ ρ M1 F) (t : TupS K H H1) (f : Frm F H H1 M1) : GoE K F H1 (X0 ρ) (L2.WE W σ) := fun C d M' H' q t' f' r => g ρ C d M' σ H' q (t.trans t') (f.trans f') (s1.next t' f' r)
section
variable {X : Cx} {a b c : Expr} {wa wb wc : WE} {pos : Pos} {W : WX}
theorem pdx_e (h : PE X a (tD X.K wa)) : PE X a (tDE X.K W fun ρ M Q _ => wa ρ M Q) := h.imp fun σ H Q => by
  rintro ⟨ρ, M, F, Q0, X0, s, q, g, _⟩
  exact ⟨ρ, M, F, Q0, s, q, g⟩
theorem pdx_call0 {x : Str} {S : XSpec} {p : Pos} (hx : CalleeX (co X) x 0 [] S) (hc : X.calm = true) (tk : Takes X W) (hg : Gl X x) (hdb : (x == ("__debug__" : Str)) = false) : PE X (.Call (.Name x p) [] [] pos) (tDE X.K W (wCallX S wNil)) := by
  obtain ⟨f, hm, hk, run⟩ := hx
  refine ⟨fun pins s σ H Q I h => ?_⟩
  refine wpAny_Call_Name_kw (ld_glob I hg hm ?_ hdb)
  obtain ⟨ρ, M, F, Q0, X0, s0, q, g, gx⟩ := h
  exact PySem.W.callWith_K0 I.kIn hk (run X rfl hc W tk pins s σ H Q [] [] [] [] I .nil .nil rfl rfl ⟨[], M, F, Q0, X0 ρ, .nil, s0.rm, s0.fr, q, g, gox_at gx s0 (.refl _) s0.fr.frm⟩)
theorem pdx_call {x : Str} {n : Nat} {S : XSpec} {p : Pos} {e : Expr} {es : List Expr} {u : WA} (hx : CalleeX (co X) x n [] S) (hc : X.calm = true) (tk : Takes X W) (hg : Gl X x) (hdb : (x == ("__debug__" : Str)) = false) (ha : PA X (e :: es) (tDN X.K n u)) (hs : (e :: es).all notStar = true) :
    PE X (.Call (.Name x p) (e :: es) [] pos) (tDE X.K W (wCallX S u)) := by
  obtain ⟨f, hm, hk, run⟩ := hx
  refine ⟨fun pins s σ H Q I h => ?_⟩
  refine wpAny_Call_Name_kw (ld_glob I hg hm ?_ hdb)
  obtain ⟨ρ, M, F, Q0, X0, s0, q, g, gx⟩ := h
  rw [List.all_cons, Bool.and_eq_true] at hs
  refine PySem.W.callWith_K (h₀ := X.base) I.ok.mod.kin hk (thn (ha.run pos pins s σ H (fun vs H1 => vs.length = n ∧ rDX X.K S vs H1 Q (L2.WE W σ)) I ⟨ρ, M, F, _, s0, q, fun ds M1 vs H1 hl q1 t1 f1 r1 p1 => ⟨hl, ds, M1, F, Q0, X0 ρ, p1, r1, s0.fr.next f1, q1, g.from t1 f1, gox_at gx (s0.next t1 f1 r1) t1 f1⟩⟩) fun us s1 ⟨vs, H1, I1, r, hl, q⟩ => ⟨I1.kIn, ?_⟩) (star_of hs.1 _ _) (back_any hs.2)
  exact run X rfl hc W tk pins s1 σ H1 Q us [] vs [] I1 r .nil hl rfl (by rw [List.append_nil]; exact q)
theorem run_kwX {n m : Nat} {S : XSpec} {u uk : WA} {σ : St} {H : Hp} {Q : VK} (h : tDE K W (wCallKX S u uk) σ H Q) : tDN K n u σ H fun vs H1 => tDN K m uk σ H1 fun zs H2 => vs.length = n ∧ zs.length = m ∧ rDX K S (vs ++ zs) H2 Q (L2.WE W σ) := by
  obtain ⟨ρ, M, F, Q0, X0, s, q, g, gx⟩ := h
  refine ⟨ρ, M, F, _, s, q, fun ds M1 vs H1 hl q1 t1 f1 r1 p1 => ⟨ρ, M1, F, _, s.next t1 f1 r1, q1, fun es M2 zs H2 hl2 q2 t2 f2 r2 p2 => ⟨hl, hl2, ds ++ es, M2, F, Q0, X0 ρ, (p1.stay t2).append p2, r2, (s.fr.next f1).next f2, q2, (g.from t1 f1).from t2 f2, gox_at gx ((s.next t1 f1 r1).next t2 f2 r2) (t1.trans t2) (f1.trans f2)⟩⟩⟩
theorem pdx_callK {x : Str} {n : Nat} {ks : List Str} {S : XSpec} {p : Pos} {e : Expr} {es : List Expr} {kws : List Keyword} {u uk : WA} (hx : CalleeX (co X) x n ks S) (hc : X.calm = true) (tk : Takes X W) (hg : Gl X x) (hdb : (x == ("__debug__" : Str)) = false) (ha : PA X (e :: es) (tDN X.K n u)) (hs : (e :: es).all notStar = true)
    (hk : PK X kws (tDN X.K ks.length uk)) (hks : kwNames kws = ks.map some) : PE X (.Call (.Name x p) (e :: es) kws pos) (tDE X.K W (wCallKX S u uk)) := by
  obtain ⟨f, hm, hkp, run⟩ := hx
  obtain ⟨a1, a2, a3⟩ := kw_all (env := X.env) (pos := pos) hks
  refine ⟨fun pins s σ H Q I h => ?_⟩
  refine wpAny_Call_Name_kw (ld_glob I hg hm ?_ hdb)
  have hs' := hs
  rw [List.all_cons, Bool.and_eq_true] at hs'
  refine PySem.W.callWith_KW (h₀ := X.base) I.ok.mod.kin hkp a1 (thn (ha.run pos pins s σ H _ I (run_kwX (m := ks.length) h)) fun us s1 ⟨vs, H1, I1, r, q⟩ => ?_) (by rw [back_any hs, a3]; rfl) (star_of hs'.1 _ _)
  refine thn (hk.run pos pins s1 σ H1 _ I1 q) fun ws s2 ⟨zs, H2, I2, rz, l1, l2, q2⟩ => ⟨I2.kIn, ?_⟩
  rw [a2]
  exact run X rfl hc W tk pins s2 σ H2 Q us ws vs zs I2 r rz l1 l2 q2
theorem pdx_callK0 {x : Str} {ks : List Str} {S : XSpec} {p : Pos} {kws : List Keyword} {uk : WA} (hx : CalleeX (co X) x 0 ks S) (hc : X.calm = true) (tk : Takes X W) (hg : Gl X x) (hdb : (x == ("__debug__" : Str)) = false)
    (hk : PK X kws (tDN X.K ks.length uk)) (hks : kwNames kws = ks.map some) : PE X (.Call (.Name x p) [] kws pos) (tDE X.K W (wCallKX S wNil uk)) := by
  obtain ⟨f, hm, hkp, run⟩ := hx
  obtain ⟨a1, a2, a3⟩ := kw_all (env := X.env) (pos := pos) hks
  refine ⟨fun pins s σ H Q I h => ?_⟩
  refine wpAny_Call_Name_kw (ld_glob I hg hm ?_ hdb)
  obtain ⟨ρ, M, F, Q0, X0, s0, q, g, gx⟩ := h
  refine PySem.W.callWith_KW0 (h₀ := X.base) I.ok.mod.kin hkp a1 (thn (hk.run pos pins s σ H (fun zs H2 => zs.length = ks.length ∧ rDX X.K S zs H2 Q (L2.WE W σ)) I ⟨ρ, M, F, _, s0, q, fun es M2 zs H2 hl2 q2 t2 f2 r2 p2 => ⟨hl2, es, M2, F, Q0, X0 ρ, p2, r2, s0.fr.next f2, q2, g.from t2 f2, gox_at gx (s0.next t2 f2 r2) t2 f2⟩⟩) fun ws s2 ⟨zs, H2, I2, rz, l2, q2⟩ => ⟨I2.kIn, ?_⟩) (by rw [a3]; rfl)
  rw [a2]
  exact run X rfl hc W tk pins s2 σ H2 Q [] ws [] zs I2 .nil rz rfl l2 q2
end
def tDSX (K : PySem.W.Frag) (W : WX) (w : WSX) : TS := fun D σ H => ∃ ρ M F D0 X0, Stt K H σ ρ M F ∧ w X0 D0 ρ M ∧ GoS K F H D0 D ∧ GoX K F H X0 W
def wStX (w : WS) : WSX := fun _ D0 ρ M => w D0 ρ M
def wNextX : WSX := fun _ D0 ρ M => D0.nx ρ M
def wSeqX (w u : WSX) : WSX := fun X0 D0 ρ M => w X0 { D0 with nx := fun ρ' M' => u X0 D0 ρ' M' } ρ M
def wDropX (w : WEX) : WSX := fun X0 D0 ρ M => w ρ M (fun _ M1 => D0.nx ρ M1) X0
def wRetX (w : WEX) : WSX := fun X0 D0 ρ M => w ρ M D0.rt X0
def wAsgX (w : WEX) (g : Tg) : WSX := fun X0 D0 ρ M => w ρ M (fun d M1 => ∃ ρ', g.asn d ρ = some ρ' ∧ D0.nx ρ' M1) X0
def wIfX (t : WT) (w u : WSX) : WSX := fun X0 D0 ρ M => t ρ M fun b M1 => if b = true then w X0 D0 ρ M1 else u X0 D0 ρ M1
section
variable {X : Cx} {a b c : Expr} {pos : Pos} {st : Stmt} {rest sts sts' : List Stmt} {w u : WSX} {we : WEX} {W : WX}
theorem psx_st {w : WS} (h : PS X st (tDS X.K w)) : PS X st (tDSX X.K W (wStX w)) := h.imp fun D σ H => by
  rintro ⟨ρ, M, F, D0, X0, s, q, g, _⟩
  exact ⟨ρ, M, F, D0, s, q, g⟩
theorem psx_nil : PSs X [] (tDSX X.K W wNextX) := pss_nil.imp fun D σ H => by
  rintro ⟨ρ, M, F, D0, X0, s, q, g, _⟩
  exact g.nx ρ M σ H q (.refl _) s.fr.frm s
theorem psx_cons (h1 : PS X st (tDSX X.K W w)) (h2 : PSs X rest (tDSX X.K W u)) : PSs X (st :: rest) (tDSX X.K W (wSeqX w u)) := (pss_cons h1 h2).imp fun D σ H => by
  rintro ⟨ρ, M, F, D0, X0, s, q, g, gx⟩
  exact ⟨ρ, M, F, _, X0, s, q, ⟨fun ρ' M' σ' H' q' t' f' s' => ⟨ρ', M', F, D0, X0, s', q', g.from t' f', gx.from t' f'⟩, g.rt, g.bk, g.ct⟩, gx⟩
theorem psx_expr (he : PE X a (tDE X.K W we)) (hs : swapsWith a none pos.line X.env = pure false) : PS X (.Expr a pos) (tDSX X.K W (wDropX we)) := (ps_expr he hs).imp fun D σ H => by
  rintro ⟨ρ, M, F, D0, X0, s, q, g, gx⟩
  exact ⟨ρ, M, F, _, X0, s, q, fun d M1 v H1 q1 t1 f1 r1 p1 => g.nx ρ M1 σ H1 q1 t1 f1 (s.next t1 f1 r1), gx⟩
theorem psx_ret (he : PE X a (tDE X.K W we)) : PS X (.Return (some a) pos) (tDSX X.K W (wRetX we)) := (ps_ret he).imp fun D σ H => by
  rintro ⟨ρ, M, F, D0, X0, s, q, g, gx⟩
  exact ⟨ρ, M, F, _, X0, s, q, fun d M1 v H1 q1 t1 f1 r1 p1 => g.rt d M1 v H1 q1 t1 f1 r1 p1, gx⟩
theorem asgx_of {gt : Tg} {D : Ends} {σ : St} {H : Hp} (h : tDSX K W (wAsgX we gt) D σ H) : tAsg (tDE K W we) (gD K gt) D σ H := by
  obtain ⟨ρ, M, F, D0, X0, s, q, g, gx⟩ := h
  refine ⟨ρ, M, F, _, X0, s, q, fun d M1 v H1 q1 t1 f1 r1 p1 => ?_, gx⟩
  obtain ⟨ρ', e, q1⟩ := q1
  exact ⟨d, ρ, ρ', M1, F, p1, s.next t1 f1 r1, e, fun σ' _ s' => g.nx ρ' M1 σ' H1 q1 t1 f1 s'⟩
theorem psx_asg {tg : Expr} {gt : Tg} (he : PE X a (tDE X.K W we)) (hg : PG X tg (gD X.K gt)) (hs : swapsWithSole [tg] a pos.line X.env = pure false) (hw : swappedStores [tg] a X.env = pure none) (h1 : (assignEach [tg] X.env).map (·.2) = [assign tg X.env]) :
    PS X (.Assign [tg] a pos) (tDSX X.K W (wAsgX we gt)) := (ps_asg he hg hs hw h1).imp fun _ _ _ h => asgx_of h
theorem psx_if {wt : WT} (hc : PT X c (tDT X.K wt)) (ha : PSs X sts (tDSX X.K W w)) (hb : PSs X sts' (tDSX X.K W u)) : PS X (.If c sts sts' pos) (tDSX X.K W (wIfX wt w u)) := (ps_if hc ha hb).imp fun D σ H => by
  rintro ⟨ρ, M, F, D0, X0, s, q, g, gx⟩
  refine ⟨ρ, M, F, _, s, q, fun b M1 H1 q1 t1 f1 r1 => ?_⟩
  cases b with
  | true => rw [if_pos rfl] at q1 ⊢; exact ⟨ρ, M1, F, D0, X0, s.next t1 f1 r1, q1, g.from t1 f1, gx.from t1 f1⟩
  | false => rw [if_neg Bool.false_ne_true] at q1 ⊢; exact ⟨ρ, M1, F, D0, X0, s.next t1 f1 r1, q1, g.from t1 f1, gx.from t1 f1⟩
end
end DL
namespace DL
open PySem PySem.Spec PyProof.Rows L2
structure BaseI (K : PySem.W.Frag) (mg : Str → Option Value) (x : Str) : Prop where
  ex : ∃ CB, mg x = some (.ref CB) ∧ PySem.W.readsIn K CB (.type "type") = true ∧ PySem.W.specialIn K (.ref CB) "__getattribute__" = some (some (.builtin "type.__getattribute__")) ∧ PySem.W.findCls K (.ref CB) (.type "type") "__init__" = some (.val (.builtin "ValueError.__init__"))
theorem pe_basei {X : Cx} {x : Str} {e : Expr} {es : List Expr} {ta : TA} {p1 p2 pos : Pos} {pl : Sem Bool} (B : BaseI X.K X.mg x) (hg : Gl X x) (hdb : (x == ("__debug__" : Str)) = false) (ha : PA X (e :: es) ta)
    (hc : eval (.Call (.Attribute (.Name x p1) "__init__" p2) (e :: es) [] pos) X.env = (do
      let ov ← eval (.Name x p1) X.env
      standAt p2.atName
      let (f, first) ← holding [ov] (getMethod ov "__init__" pl)
      callWith pos f first (backTo pos (starEach (e :: es) X.env)) (backToKw pos (keywordEach [] X.env))))
    (he : starEach (e :: es) X.env = (false, eval e X.env) :: starEach es X.env) (hpl : (backTo pos (starEach es X.env)).any (·.1) = false) :
    PE X (.Call (.Attribute (.Name x p1) "__init__" p2) (e :: es) [] pos) (tVeI X.K ta) := by
  obtain ⟨CB, hm, hr, hga, hf⟩ := B.ex
  refine ⟨fun pins s σ H Q I h => ?_⟩
  refine PySem.W.methodCall_KW (ld_glob I hg hm ?_ hdb) hc
  refine PySem.W.method_cls I.kIn hga (PySem.W.cls_value I.kIn hr hf rfl ?_)
  show wpAny _ _ (callWith pos (Value.builtin "ValueError.__init__") [] (backTo pos (starEach (e :: es) X.env)) []) _ _ _
  refine callWith_method1 (thn (ha.run pos pins _ σ H _ (I.tok _) h) fun us s1 ⟨vs, H1, I1, r1, a, C, ws, ev, hl, T, ea, q⟩ => ?_) he hpl
  subst ev
  cases r1 with
  | @cons _ u0 _ ur ra rw' =>
    obtain rfl : u0 = Value.ref a := ra
    have hlen : ur.length ≤ sizeLine := by
      rw [← Paired.length rw', sizeLine_eq]
      omega
    exact oinit_ok T I1 ea hlen fun s' J => ⟨.non, H1, J, rfl, q⟩
def spI (K : PySem.W.Frag) : Option Str → Sp
  | none => fun vs H Q _ => ∃ a C, vs = [.ref a] ∧ OexC K C ∧ H a = some (exo a C none) ∧ Q .non H
  | some f => fun vs H Q _ => ∃ a C y, vs = [.ref a, y] ∧ OexC K C ∧ PySem.W.findIn K (.ref C) f = some none ∧ H a = some (exo a C none) ∧ ∀ dx, H dx = none → dx ≠ a → Q .non (upd (upd H dx (exd dx [(f, y)])) a (exo a C (some dx)))
def excR (c : Sc) : Option Str → List Stmt → Bool
  | none, r => r.isEmpty
  | some f, r => match r with
    | [.Assign [.Attribute (.Name s p7) g p8] (.Name z p9) p10] => decide (f = g) && (nmB c 0 s && nmB c 1 z)
    | _ => false
def excB (c : Sc) (x : Str) (f : Option Str) : List Stmt → Bool
  | .Expr (.Call (.Attribute (.Name y p1) i p2) [.Name s p3, .Constant (.str m) j p4] [] p5) p6 :: r => decide (i = "__init__") && (decide (y = x) && (glB c y && (nmB c 0 s && ((p2.endLine == p5.line) && excR c f r))))
  | _ => false
theorem excB_inv {c : Sc} {x : Str} {f : Option Str} {body : List Stmt} (h : excB c x f body = true) : ∃ p1 p2 s p3 m j p4 p5 p6 r, body = .Expr (.Call (.Attribute (.Name x p1) "__init__" p2) [.Name s p3, .Constant (.str m) j p4] [] p5) p6 :: r ∧ glB c x = true ∧ nmB c 0 s = true ∧ (p2.endLine == p5.line) = true ∧ excR c f r = true := by
  unfold excB at h
  split at h
  · obtain ⟨h1, g1⟩ := band h
    obtain ⟨h2, g2⟩ := band g1
    obtain ⟨h3, g3⟩ := band g2
    obtain ⟨h4, g4⟩ := band g3
    obtain ⟨h5, h6⟩ := band g4
    obtain rfl := of_decide_eq_true h1
    obtain rfl := of_decide_eq_true h2
    exact ⟨_, _, _, _, _, _, _, _, _, _, rfl, h3, h4, h5, h6⟩
  · cases h
theorem excR_none {c : Sc} {r : List Stmt} (h : excR c none r = true) : r = [] := by
  unfold excR at h
  exact List.isEmpty_iff.mp h
theorem excR_some {c : Sc} {f : Str} {r : List Stmt} (h : excR c (some f) r = true) : ∃ s p7 p8 z p9 p10, r = [.Assign [.Attribute (.Name s p7) f p8] (.Name z p9) p10] ∧ nmB c 0 s = true ∧ nmB c 1 z = true := by
  unfold excR at h
  dsimp only at h
  split at h
  · obtain ⟨h1, g1⟩ := band h
    obtain ⟨h2, h3⟩ := band g1
    obtain rfl := of_decide_eq_true h1
    exact ⟨_, _, _, _, _, _, rfl, h2, h3⟩
  · cases h
def excN : Option Str → Nat | none => 1 | some _ => 2
theorem start_at {N : List Str} {vs : List V} {i : Nat} {v : V} (h : vs[i]? = some v) : (L2.start N vs)[i]? = some (some v) := by
  have hi : i < vs.length := by
    rcases Nat.lt_or_ge i vs.length with h' | h'
    · exact h'
    · rw [List.getElem?_eq_none h'] at h; cases h
  unfold L2.start
  rw [List.getElem?_append_left (by simpa using hi), List.getElem?_map, h]
  rfl
section
variable {P : Program} {w : World} {K : PySem.W.Frag} {mg : Str → Option Value} {base : Heap} {nm qual : Str} {params : Arguments} {body : List Stmt} {scope : Scope} {kws : List (Str × V)} {f : Addr} {fd : FuncData} {N ps : List Str} {k : Nat} {x : Str} {fl : Option Str} {CX : CXT}
theorem exc_init (F : FunD K nm qual params body scope [] kws f fd) (sc : FnScope N ps scope) (hl : ps.length = excN fl) (hm : excB ⟨N, scope, fun _ => true⟩ x fl body = true) (B : BaseI K mg x) : FnOk P w K mg base CX (k + 1) f fd ps (spI K fl) := by
  refine F.ok sc (fun vs H Q E h => ?_) (fun cdv A outer s H vs Q E hr h => ?_)
  · rw [hl]
    cases fl with
    | none => obtain ⟨a, C, rfl, _⟩ := h; rfl
    | some f => obtain ⟨a, C, y, rfl, _⟩ := h; rfl
  · obtain ⟨p1, p2, sl, p3, m, j, p4, p5, p6, r, rfl, h3, h4, h5, h6⟩ := excB_inv hm
    have g : Gd ⟨N, scope, fun _ => true⟩ (cxOf CX P w K mg base N qual scope f cdv A outer s H E) := ⟨rfl, sc.nd, rfl, rfl, rfl, by
      have := hr.un
      show (A.deeper _).units + 65 < cLine
      omega, deeper_cq⟩
    obtain ⟨g1, g2⟩ := g.gl h3
    have hs : ([.Name sl p3, .Constant (.str m) j p4] : List Expr).all notStar = true := rfl
    have st : PS (cxOf CX P w K mg base N qual scope f cdv A outer s H E) (.Expr (.Call (.Attribute (.Name x p1) "__init__" p2) [.Name sl p3, .Constant (.str m) j p4] [] p5) p6) (tDrop (tVeI K (tCons (tVar 0) (tCons (tC (.str m)) tNil)))) :=
      ps_expr (pe_basei B g1 g2 (pa_cons (g.var h4) (pa_cons pe_str pa_nil)) (ev_meth rfl (form_of hs (by show 2 < 30; omega)) h5) rfl rfl) rfl
    cases fl with
    | none =>
      obtain rfl := excR_none h6
      obtain ⟨a, C, rfl, T, ea, q⟩ := h
      exact ⟨_, pss_one st, ⟨_, start_at rfl, a, C, [.str m], rfl, by show 1 ≤ 1000; omega, T, ea, q⟩⟩
    | some fl =>
      obtain ⟨s2, p7, p8, z, p9, p10, rfl, h7, h8⟩ := excR_some h6
      obtain ⟨a, C, y', rfl, T, no, ea, q⟩ := h
      have st2 : PS (cxOf CX P w K mg base N qual scope f cdv A outer s H E) (.Assign [.Attribute (.Name s2 p7) fl p8] (.Name z p9) p10) (tOst K fl (tVar 0) (tVar 1)) := ps_ost (g.var h7) (g.var h8) rfl
      exact ⟨_, pss_cons st (pss_one st2), ⟨_, start_at rfl, a, C, [.str m], rfl, by show 1 ≤ 1000; omega, T, ea, ⟨_, start_at rfl, _, start_at rfl, a, C, rfl, T, no, .inl ⟨ea, q⟩⟩⟩⟩
end
structure MkE (k : Co) (x : Str) (C : Addr) (f : Option Str) : Prop where
  mg : k.mg x = some (.ref C)
  oe : OexC k.K C
  no : ∀ g, f = some g → PySem.W.findIn k.K (.ref C) g = some none
  ini : ∃ (n : Nat) (fI : Addr) (fd : FuncData) (ps : List Str), PySem.W.findIn k.K (.ref C) "__init__" = some (some (.ref fI)) ∧ PySem.W.typeIn k.K (.ref fI) = some (.type "function") ∧ FnOk k.prog k.w k.K k.mg k.base CX0 n fI fd ps (spI k.K f) ∧ Room (n + 1) k.A ∧ Binds k.K fd ps []
theorem mk_endN {X : Cx} {pins : List (Addr × Obj)} {σ : L2.St} {H1 H2 : Hp} {hp hp2 h2 : Heap} {g1 g2 : Array GenState} {d1 d2 : Drawn} {t1 t2 : Nat} {os1 os2 : OsState} {a C : Addr} (I1 : Inv X pins σ H1 ⟨hp, g1, d1, t1, os1⟩)
    (ha : hp.objs.size ≤ a) (k : ∀ b o, hp.get? b = some o → hp2.get? b = some o) (un : Un (frs X.stack) [] (upd H1 a (exo a C none)) H2 hp2 h2) (hok : HOk X.prog X.w H2 h2) (ho : os2 = os1) (hb : AllBare g2)
    (ea : H2 a = some (exo a C none)) :
    ∃ (t0 : Addr) (G : Heap), Inv X pins σ (del H2 a) ⟨G, g2, d2, t2, os2⟩ ∧ (∀ b o, G.get? b = some o → h2.get? b = some o) ∧ G.get? a = none ∧
      h2.get? a = some ({ cls := .ref C, dict := none, data := .fields #[.ref t0, .none, .none, .none, .bool false, .none] } : Obj) := by
  obtain ⟨t0, hoe⟩ := exo_at hok ea
  have hn : H1 a = none := I1.hok.fresh ha
  obtain ⟨G, g1', g2'⟩ := restrict h2 fun b => decide (b ≠ a)
  have gk : ∀ b, b ≠ a → G.get? b = h2.get? b := fun b hb => g1' b (decide_eq_true hb)
  have ge : G.get? a = none := g2' a (by simp)
  have nha : ∀ {b : Addr} {o : Obj}, hp.get? b = some o → b ≠ a := fun {b o} z => Nat.ne_of_lt (Nat.lt_of_lt_of_le (Heap.lt_size z) ha)
  have up : ∀ {b : Addr}, b ≠ a → H1 b = none → upd H1 a (exo a C none) b = none := fun {b} hb n => by rw [upd_ne hb]; exact n
  have U : Un (frs X.stack) [] H1 (del H2 a) hp G := {
    keep := fun b o z n hf hx => by
      rw [gk b (nha z)]
      exact un.keep b o (k b o z) (up (nha z) n) hf hx
    slot := fun b o z n hf hx => by
      rw [gk b (nha z)]
      exact un.slot b o (k b o z) (up (nha z) n) hf hx
    free := fun b o z n hx => by
      rw [L2.del_ne (nha z)]
      exact un.free b o (k b o z) (up (nha z) n) hx
    there := fun b o z hx => by
      rw [gk b (nha z)]
      exact un.there b o (k b o z) hx
    tups := fun b xs z => by
      rw [L2.del_ne (ne_of_none z hn)]
      exact un.tups b xs (by rw [upd_ne (ne_of_none z hn)]; exact z)
    frzs := fun b o v z => by
      rw [L2.del_ne (ne_of_none z hn)]
      exact un.frzs b o v (by rw [upd_ne (ne_of_none z hn)]; exact z)
    tbls := fun b ps z => by
      rw [L2.del_ne (ne_of_none z hn)]
      exact un.tbls b ps (by rw [upd_ne (ne_of_none z hn)]; exact z) }
  have hok3 : HOk X.prog X.w (del H2 a) G := fun b o z => by
    have hba : b ≠ a := fun e => by
      rw [e, L2.del_same] at z
      cases z
    rw [L2.del_ne hba] at z
    have noa : ∀ {c : Addr}, H2 c = some (.own b) → c ≠ a := fun {c} hc => at_ne ea hc exo_own
    exact (hok b o z).stay (fun c v hc y => by
        have hca : c ≠ a := by
          rcases hc with hc | hc
          · rw [hc]
            exact hba
          · exact noa hc
        rw [gk c hca]
        exact y)
      (fun c hc => by rw [L2.del_ne (noa hc)]; exact hc) (fun c xs hc => by rw [L2.del_ne (at_ne ea hc exo_tup)]; exact hc)
  have J : Inv X pins σ (del H2 a) ⟨G, g2, d2, t2, os2⟩ := I1.call' (ch := []) ho U hok3 hb (fun b z => absurd z (by simp))
  refine ⟨t0, G, J, fun b o z => ?_, ge, hoe⟩
  by_cases hba : b = a
  · rw [hba, ge] at z
    cases z
  · exact (gk b hba).symm.trans z
theorem del_upd {H : Hp} {a : Addr} {o : HO} (h : H a = none) : del (upd H a o) a = H := by
  funext b
  by_cases e : b = a
  · subst e; rw [L2.del_same, h]
  · rw [L2.del_ne e, upd_ne e]
section
variable {X : Cx} {W : WX} {x : Str} {C : Addr} {p pos pos' : Pos}
theorem pmk_none (M : MkE (co X) x C none) (hg : Gl X x) (hdb : (x == ("__debug__" : Str)) = false) : PMk X (.Call (.Name x p) [] [] pos) (fun _ H Q => Q (.ref C) none H) := by
  intro pins s σ H Q I h
  have T : OexC X.K C := M.oe
  obtain ⟨n, fI, fd, ps, iC, tI, F1, hr, hb⟩ := M.ini
  have hm : X.mg x = some (.ref C) := M.mg
  obtain ⟨nm, q, N, bs, bm, sn, sub, ab, col, dd, k0, k1, k2, k3, k5, hC, hbm⟩ := T.cls
  refine wpAny_Call_Name_kw (ld_glob I hg hm ?_ hdb)
  refine PySem.W.callWith_K0 I.kIn T.kC ?_
  show wpAny _ _ (call (.ref C) []) _ _ _
  obtain ⟨hp, g, dr, tk, os⟩ := s
  have hsz : hp.objs.size ≤ hp.objs.size + 1 := Nat.le_succ _
  have hn : H (hp.objs.size + 1) = none := I.hok.fresh hsz
  have kk : ∀ b o, hp.get? b = some o → ((hp.push (PySem.W.kdv_tup [])).push (PySem.HandSPX.excO C hp.objs.size)).get? b = some o := fun b o e => Heap.get?_push_of_some _ (Heap.get?_push_of_some _ e)
  have hget : ((hp.push (PySem.W.kdv_tup [])).push (PySem.HandSPX.excO C hp.objs.size)).get? (hp.objs.size + 1) = some (PySem.HandSPX.excO C hp.objs.size) := by heap_get
  have I2 : Inv X pins σ (upd H (hp.objs.size + 1) (exo (hp.objs.size + 1) C none)) ⟨(hp.push (PySem.W.kdv_tup [])).push (PySem.HandSPX.excO C hp.objs.size), g, dr, tk, os⟩ :=
    I.laid (t' := tk) (a := hp.objs.size + 1) (o := exo (hp.objs.size + 1) C none) (h' := (hp.push (PySem.W.kdv_tup [])).push (PySem.HandSPX.excO C hp.objs.size)) kk hsz (exo_ok hget)
  have hq : spI X.K none [.ref (hp.objs.size + 1)] (upd H (hp.objs.size + 1) (exo (hp.objs.size + 1) C none)) (fun v H2 => v = .non ∧ H2 = upd H (hp.objs.size + 1) (exo (hp.objs.size + 1) C none)) (fun _ _ _ => False) := ⟨_, C, rfl, T, upd_same, rfl, rfl⟩
  have r2 : Vals [V.ref (hp.objs.size + 1)] [Value.ref (hp.objs.size + 1)] := .cons rfl .nil
  have hl : ([Value.ref (hp.objs.size + 1)] ++ ([] : List Value)).length = ps.length := by
    have e := F1.len _ _ _ _ hq
    rw [← e]
    rfl
  refine wpAny_call (PySem.HandSPX.call_own F.excBase_ValueError (fun Y => PySem.HandSPX.refsVE_contains Y bm hbm) (I.kIn _ _ hC) (PySem.W.looks_findIn I.kIn iC) (fun self => PySem.W.bind_fn I.kIn self tI) (by show 0 ≤ sizeLine; omega)
    (codeAny_mono (F1.run _ X.stack _ _ ⟨[Value.ref (hp.objs.size + 1)], []⟩ [Value.ref (hp.objs.size + 1)] _ _ (fun _ _ _ => False) (hr.make C [] []) (I2.env0.make C [] []) (by have z := hb _ [Value.ref (hp.objs.size + 1)] I2.kIn hl; rw [List.append_nil] at z; exact z) r2 hq) fun r s' hq' => ?_))
  cases r with
  | error er => exact hq'.elim
  | ok fl =>
    cases fl with
    | ret u =>
      obtain ⟨v, H2, os2, bare2, un2, hok2, rv, ev, e2⟩ := hq'
      subst ev
      subst e2
      obtain ⟨h2, g2, d2, t2, os'⟩ := s'
      obtain ⟨t0, G, J, kG, ge, hoe⟩ := mk_endN (d2 := d2) (t2 := t2) I hsz kk un2 hok2 os2 bare2 upd_same
      rw [del_upd hn] at J
      exact ⟨rv, hp.objs.size + 1, _, _, ⟨G, g2, d2, t2, os'⟩, _, .ref C, none, rfl, J, kG, ge, hoe, ⟨rfl, rfl⟩, rfl, rfl, hn, rfl, bare2, raises_own T.exC T.tyC, h⟩
    | next => exact False.elim hq'
    | brk => exact False.elim hq'
    | cont => exact False.elim hq'
def wRaise (C : Addr) (f : Option Str) (u : WA) : WSX := fun X0 _ ρ M => u ρ M fun ds M1 => match f with
  | none => ds = [] ∧ X0 ρ C none M1
  | some f => ∃ d, ds = [d] ∧ ∀ q, M1 q = none → X0 ρ C (some q) (up M1 q (.exd [(f, d)]))
theorem psx_raise0 (hc : X.calm = true) (tk : Takes X W) (M : MkE (co X) x C none) (hg : Gl X x) (hdb : (x == ("__debug__" : Str)) = false) : PS X (.Raise (some (.Call (.Name x p) [] [] pos)) none pos') (tDSX X.K W (wRaise C none wNil)) :=
  (ps_raise hc tk (pmk_none M hg hdb)).imp fun D σ H => by
    rintro ⟨ρ, M, F, D0, X0, s, q, g, gx⟩
    obtain ⟨_, q⟩ := q
    exact gx ρ C none M σ H q (.refl _) s.fr.frm s
theorem psx_raise1 {f : Str} {e : Expr} {we : WE} (hc : X.calm = true) (tk : Takes X W) (M : MkE (co X) x C (some f)) (hg : Gl X x) (hdb : (x == ("__debug__" : Str)) = false) (he : PE X e (tD X.K we)) (hs : notStar e = true) : PS X (.Raise (some (.Call (.Name x p) [e] [] pos)) none pos') (tDSX X.K W (wRaise C (some f) (wCons we wNil))) := by
  obtain ⟨n, fI, fd, ps, iC, tI, F1, hr, hb⟩ := M.ini
  refine (ps_raise hc tk (pmk_oex (dvs := []) (ds := []) M.oe iC tI F1 hr hb .nil pass0 hg M.mg (pa_cons he pa_nil (star_of hs _ _)) hdb (star_of hs _ _) rfl)).imp fun D σ H => ?_
  rintro ⟨ρ, M', F, D0, X0, s, q, g, gx⟩
  refine ⟨ρ, M', F, _, s, q, fun d M1 v H1 q1 t1 f1 r1 p1 => ?_⟩
  obtain ⟨d', e1, q1⟩ := q1
  cases e1
  refine ⟨by show 1 ≤ 1000; omega, fun a ha => ⟨a, C, v, rfl, M.oe, M.no f rfl, upd_same, fun dx hdx hne => ⟨rfl, dx, [(f, v)], upd_same, ?_, ?_, ?_⟩⟩⟩
  · rw [upd_ne hne]; exact upd_same
  · rw [upd_ne hne] at hdx; exact hdx
  · rw [upd_ne hne] at hdx
    have e2 : upd (del (upd (upd (upd H1 a (exo a C none)) dx (exd dx [(f, v)])) a (exo a C (some dx))) a) dx (.xd [(f, v)]) = upd H1 dx (.xd [(f, v)]) := by
      funext b
      by_cases hb : b = dx
      · subst hb; rw [upd_same, upd_same]
      · rw [upd_ne hb, upd_ne hb]
        by_cases hba : b = a
        · subst hba; rw [L2.del_same, ha]
        · rw [L2.del_ne hba, upd_ne hba, upd_ne hb, upd_ne hba]
    rw [e2]
    have s1 := s.next t1 f1 r1
    have tt : TupS X.K H1 (upd H1 dx (.xd [(f, v)])) := .new hdx
    have rm : RepM X.K (upd H1 dx (.xd [(f, v)])) (up M1 dx (.exd [(f, d)])) := r1.new hdx ⟨_, upd_same, by unfold Pairs; exact ⟨v, [], rfl, p1.stay tt, by unfold Pairs; rfl⟩⟩
    have ff := s1.fr.new (u := .xd [(f, v)]) hdx (.exd [(f, d)])
    exact gx ρ C (some dx) _ σ _ (q1 dx (r1.none hdx)) (t1.trans tt) (f1.trans ff) (s1.next tt ff rm)
end
end DL
namespace DL
open PySem PySem.Spec PyProof.Rows L2
section
variable {X : Cx} {pins : List (Addr × Obj)} {σ : L2.St} {H : Hp} {s : Shared}
theorem keepExc {a C : Addr} {d : Option Addr} {oe : Obj} (I : Inv X pins σ H s) (ha : s.heap.get? a = some oe) (h1 : oe.cls = .ref C) (h2 : oe.dict = d) (h3 : ∃ vs, oe.data = .fields vs) (na : H a = none) (n0 : X.s_0.heap.get? a = none) (nL : a ≠ X.env.locals)
    (hp : ∀ p ∈ X.pn ++ pins, p.1 ≠ a) : Inv X pins σ (upd H a (exH a C d)) s := by
  have nn : ∀ {b : Addr} {o : HO}, H b = some o → b ≠ a := fun {b o} e z => by rw [z, na] at e; cases e
  obtain ⟨vs, h3⟩ := h3
  refine ⟨I.ok, I.os, I.bare, ⟨I.base.keep, I.base.slot, fun b o e n hx => ?_, I.base.there, fun b xs e => ?_, fun b o v e => ?_, fun b ps e => ?_⟩, I.loc, I.cell, ?_, fun y c e => ?_, fun p hm => ?_, fun b o e => ?_, I.len⟩
  · rw [upd_ne (fun z => by rw [z, n0] at e; cases e)]
    exact I.base.free b o e n hx
  · have q := I.base.tups b xs e
    rw [upd_ne (nn q)]; exact q
  · have q := I.base.frzs b o v e
    rw [upd_ne (nn q)]; exact q
  · obtain ⟨more, q⟩ := I.base.tbls b ps e
    exact ⟨more, by rw [upd_ne (nn q)]; exact q⟩
  · rw [upd_ne (Ne.symm nL)]; exact I.free
  · rw [upd_ne]
    · exact I.freeC y c e
    · intro z
      obtain ⟨v, o, ho, hd⟩ := I.cell y c e
      rw [z, ha] at ho
      cases ho
      rw [h3] at hd
      cases hd
  · obtain ⟨q1, q2, q3, q4, q5⟩ := I.pin p hm
    exact ⟨q1, by rw [upd_ne (hp p hm)]; exact q2, q3, q4, q5⟩
  · by_cases hb : b = a
    · subst hb
      rw [upd_same] at e
      cases e
      exact ⟨⟨oe, vs, ha, h1, h2, h3⟩, ⟨oe, ha⟩, fun h1' h2' z k => by
        obtain ⟨oe', vs', q1, q2, q3, q4⟩ := z
        exact ⟨oe', vs', k _ q1, q2, q3, q4⟩⟩
    · rw [upd_ne hb] at e
      exact (I.hok b o e).stay (fun _ _ _ q => q) (fun c q => by rw [upd_ne (nn q)]; exact q) (fun c xs q => by rw [upd_ne (nn q)]; exact q)
end
def endsK (D : Ends) (i : Nat) : Ends := ⟨fun σ' H' => D.nx (σ'.set i none) H', D.rt, fun σ' H' => D.bk (σ'.set i none) H', fun σ' H' => D.ct (σ'.set i none) H'⟩
def wKeep (K : PySem.W.Frag) (c : Value) (i : Nat) (ts : TS) (Wout : WX) (D : Ends) : WX := fun cls d σ H =>
  ∃ b C, cls = .ref C ∧ PySem.W.exmOne K cls c = some b ∧ (b = true → ∀ a, H a = none → ts (endsK D i) (σ.set i (some (.ref a))) (upd H a (exH a C d))) ∧ (b = false → Wout cls d σ H)
theorem toSuite {X : Cx} {pins : List (Addr × Obj)} {σ : L2.St} {H : Hp} {s : Shared} (I : Inv X pins σ H s) (a : Addr) : Inv (X.suite a X.pn) pins σ H s := ⟨I.ok.suite a X.pn, I.os, I.bare, I.base, I.loc, I.cell, I.free, I.freeC, I.pin, I.hok, I.len⟩
theorem ofSuite {X : Cx} {pins : List (Addr × Obj)} {σ : L2.St} {H : Hp} {s : Shared} {a : Addr} (I : Inv (X.suite a X.pn) pins σ H s) (ok : X.Ok) : Inv X pins σ H s := ⟨ok, I.os, I.bare, I.base, I.loc, I.cell, I.free, I.freeC, I.pin, I.hok, I.len⟩
section
variable {X : Cx} {x n : Str} {c : Value} {i : Nat} {body suite : List Stmt} {b₀ : Stmt} {np pos pos' : Pos} {tb : WX → TS} {ts : TS} {Wout : WX}
theorem ps_try_keep (hs : X.stack = X.env :: X.outer) (hf : X.env.frame = some X.env.locals) (hex : X.ex = []) (hN : X.N.Nodup) (hi : X.N[i]? = some n) (hln : X.env.kindOf n = some .local) (hc : Names X x c) (tk : Takes X Wout)
    (hb : ∀ (W : WX) (pn : List (Addr × Obj)) (xe : Value → Shared → Prop), Takes (X.tr pn xe) W → PassesOwn (model X.prog X.w) X.A X.env xe → PSs (X.tr pn xe) body (tb W))
    (hsu : ∀ (a : Addr), PSs (X.suite a X.pn) (b₀ :: suite) ts) :
    PS X (.Try body [.ExceptHandler (some (.Name x np)) (some n) (b₀ :: suite) pos'] [] [] pos) (fun D σ H => tb (wKeep X.K c i ts Wout D) D σ H) := by
  refine ⟨fun pins s σ H D I h => ?_⟩
  have ok := I.ok
  have hfr : X.A.frames = some (X.env :: X.outer) := by rw [ok.frames, hs]
  have hloc : Loc X.env.scope n := .inl hln
  refine wpAny_Try_except ?_
  refine wpAny_mono ((hb (wKeep X.K c i ts Wout D) (X.pn ++ pins) (fun e s₁ => wpAny (model X.prog X.w) X.A (noteFrame e X.env) (fun _ s₂ => wpAny (model X.prog X.w) X.A (setFlight e none) (fun _ s₃ =>
    wpAny (model X.prog X.w) X.A (handleBy e X.env [.ExceptHandler (some (.Name x np)) (some n) (b₀ :: suite) pos']) (SP X pins D) X.xe s₃) X.xe s₂) X.xe s₁) (fun u s' xx => ?_) PassesOwn.looking).run [] s σ H D (I.toTry _) h) (fun f s1 hsp => ?_) (fun e s1 he => he)
  ·
    obtain ⟨a, B, sI, pins', σ', H', cls, d, rfl, J', nb, up, sky, na, os, ag, b, C, rfl, hb1, hyes, hno⟩ := xx
    have J : Inv X pins σ' H' sI := J'.ofTry ok
    have sky' : Sky B (X.env :: X.outer) a (Zc (.ref C) d) X.env.locals s'.heap := by rw [← hs]; exact sky
    show wpAny (model X.prog X.w) X.A (noteFrame (.ref a) X.env) _ _ _
    refine Sky.land Zc.steady hfr hf sky' fun h3 fl3 up3 => ?_
    have J3 : Inv X pins σ' H' { s' with heap := h3 } := J.landed nb fl3.1 (up.trans up3) os ag
    obtain ⟨oe3, vs3, he3, hz3, hd3⟩ := fl3.there
    have notFr : ∀ {h : Heap} {o : Obj} {vs : Array Value}, h.FunFrames B (X.env :: X.outer) → h.get? a = some o → o.data = .fields vs → a ∉ frs (X.env :: X.outer) := fun {h o vs} ff e dd hm => by
      obtain ⟨_, o', e', hnf⟩ := ff.mem hm
      rw [e] at e'; cases e'
      exact hnf _ dd
    have nfr := notFr fl3.2.2.1 he3 hd3
    have nL : a ≠ X.env.locals := fun z => nfr (List.mem_filterMap.mpr ⟨X.env, List.mem_cons_self, by rw [hf, z]⟩)
    have nF : a ∉ X.fs := fun hm => by
      obtain ⟨e, he, q⟩ := List.mem_filterMap.mp hm
      exact nfr (List.mem_filterMap.mpr ⟨e, List.mem_cons_of_mem _ he, q⟩)
    have nB : B.get? a = none := fl3.2.1
    have nI : ∀ o, sI.heap.get? a ≠ some o := fun o e => by
      have z := nb a o e (by rw [hs]; exact nfr)
      rw [nB] at z; cases z
    have n0 : X.s_0.heap.get? a = none := by
      cases e : X.s_0.heap.get? a with
      | none => rfl
      | some o =>
        obtain ⟨o', e'⟩ := J.base.there a o e (by rw [hex]; simp)
        exact absurd e' (nI o')
    have hpn : ∀ p ∈ X.pn ++ pins, p.1 ≠ a := fun p hp z => by
      obtain ⟨q1, _⟩ := J.pin p hp
      rw [z] at q1
      exact nI _ q1
    have S3 := J3.suite he3 hd3 na nL nF
    refine wpAny_handleBy_cons (codeAny_handlers_test ?_) (by intro q; cases q)
    have LT : PySem.W.Looks (model X.prog X.w) h3 (typeOf (.ref a)) (.ref C) := fun A Q E s k q => wpAny_typeOf_ref (k _ _ he3) (by rw [hz3.1]; exact q)
    have LM := PySem.W.exm_one (M := model X.prog X.w) (J3.kIn) LT hb1
    have test : ∀ {Q : Value → Shared → Prop} {E : Value → Shared → Prop}, Q c { s' with heap := h3 } → wpAny (model X.prog X.w) (X.A.mark (some (.ref a))) (eval (.Name x np) X.env) Q E { s' with heap := h3 } := fun {Q E} q => by
      obtain ⟨hg, hdbg, hm | ⟨hm, hv, hnn⟩⟩ := hc
      · exact ld_glob (X := X.suite a ((a, oe3) :: (X.pn ++ pins))) S3 hg hm q hdbg
      · exact ld_blt (X := X.suite a ((a, oe3) :: (X.pn ++ pins))) S3 hg hm hv q hnn hdbg
    refine test (LM.here ?_)
    cases b with
    | true =>
      refine codeAny_handlers_suite_as ?_
      refine HandSPX.lands_againZ fl3 fun h4 fl4 up4 => ?_
      have J4 : Inv X pins σ' H' { s' with heap := h4 } := J.landed nb fl4.1 ((up.trans up3).trans up4) os ag
      obtain ⟨oe4, vs4, he4, hz4, hd4⟩ := fl4.there
      have J5 : Inv X pins σ' (upd H' a (exH a C d)) { s' with heap := h4 } := keepExc J4 he4 hz4.1 hz4.2 ⟨_, hd4⟩ na n0 nL hpn
      refine store_ok (X := X.suite a X.pn) (v := .ref a) (toSuite J5 a) hN hi hloc rfl (fun s5 S5 => ?_) (.inr hln)
      refine wpAny_mono ((hsu a).run pins s5 _ _ _ S5 (hyes rfl a na)) (fun f s6 hsp => ?_) (fun _ _ z => False.elim z)
      have end_ : ∀ {σ6 : L2.St} {H6 : Hp} {Q : Shared → Prop}, Inv (X.suite a X.pn) pins σ6 H6 s6 → (∀ s7, Inv X pins (σ6.set i none) H6 s7 → Q s7) →
          wpAny (model X.prog X.w) X.A (do bindName X.env n .none; unbindBehindTheSuite X.env n pos') (fun _ s7 => Q s7) X.xe s6 := fun {σ6 H6 Q} S6 hq => gone_ok (ofSuite S6 ok) hN hi hln hq
      cases f with
      | next =>
        obtain ⟨σ6, H6, S6, q6⟩ := hsp
        exact end_ S6 fun s7 J7 => ⟨_, _, J7, q6⟩
      | brk =>
        obtain ⟨σ6, H6, S6, q6⟩ := hsp
        exact end_ S6 fun s7 J7 => ⟨_, _, J7, q6⟩
      | cont =>
        obtain ⟨σ6, H6, S6, q6⟩ := hsp
        exact end_ S6 fun s7 J7 => ⟨_, _, J7, q6⟩
      | ret u =>
        obtain ⟨v6, σ6, H6, S6, r6, q6⟩ := hsp
        exact end_ S6 fun s7 J7 => ⟨_, _, _, J7, r6, q6⟩
    | false =>
      show wpAny _ X.A (handleBy (.ref a) X.env []) _ _ _
      refine wpAny_handleBy_nil ?_
      obtain ⟨k1, k2, k3, oe, vs, T, oT, ts', he, hz, hd, h1, hr⟩ := id fl3
      unfold PySem.passOn
      refine wpAny_bind (wpAny_field he hd h1 ?_)
      rw [if_neg (show ¬ ((Value.ref T == Value.none) = true) from by simp)]
      have fin : wpAny (model X.prog X.w) X.A (setFlight (.ref a) X.env.frame) (fun _ s4 => wpAny (model X.prog X.w) X.A (throw (.ref a) : Sem Flow) (SP X pins D) X.xe s4) X.xe { s' with heap := h3 } := by
        rw [hf]
        refine HandSPX.setFlight_upZ fl3 fun h4 hh4 up4 => wpAny_throw (tk _ _ ?_)
        exact ⟨a, B, sI, pins, σ', H', .ref C, d, rfl, J, nb, (up.trans up3).trans up4, .inr (.inr (by rw [hs]; exact hh4)), na, os, ag, hno rfl⟩
      first
        | exact wpAny_bind (wpAny_pure (wpAny_bind fin))
        | exact wpAny_bind fin
  · cases f with
    | next =>
      obtain ⟨σ', H', J', q⟩ := hsp
      exact wpAny_execs_nil ⟨σ', H', J'.ofTry ok, q⟩
    | brk =>
      obtain ⟨σ', H', J', q⟩ := hsp
      exact ⟨σ', H', J'.ofTry ok, q⟩
    | cont =>
      obtain ⟨σ', H', J', q⟩ := hsp
      exact ⟨σ', H', J'.ofTry ok, q⟩
    | ret u =>
      obtain ⟨v, σ', H', J', r, q⟩ := hsp
      exact ⟨v, σ', H', J'.ofTry ok, r, q⟩
end
structure ExM (K : PySem.W.Frag) (c : Value) (ck : Addr → Option Bool) : Prop where
  ok : ∀ C b, ck C = some b → PySem.W.exmOne K (.ref C) c = some b
def wTryK (ck : Addr → Option Bool) (i : Nat) (ws : WS) (wb : WSX) : WSX := fun X0 D0 ρ M => wb (fun ρ' C d M' => ∃ b, ck C = some b ∧ (b = true → ∀ a, M' a = none → ws ⟨fun ρ2 M2 => D0.nx (ρ2.set i none) M2, D0.rt, fun ρ2 M2 => D0.bk (ρ2.set i none) M2, fun ρ2 M2 => D0.ct (ρ2.set i none) M2⟩ (ρ'.set i (some (.ref a))) (up M' a (.exo C d))) ∧ (b = false → X0 ρ' C d M')) D0 ρ M
theorem Stt.none {K : PySem.W.Frag} {H : Hp} {σ : L2.St} {ρ : Ro} {M : Mp} {F : Addr → Prop} (s : Stt K H σ ρ M F) (i : Nat) : Stt K H (σ.set i none) (ρ.set i none) M F := ⟨set_none s.rs i, s.rm, s.fr⟩
section
variable {X : Cx} {x n : Str} {c : Value} {i : Nat} {body suite : List Stmt} {b₀ : Stmt} {np pos pos' : Pos} {wb : WSX} {ws : WS} {W : WX} {ck : Addr → Option Bool}
theorem psx_try (hs : X.stack = X.env :: X.outer) (hf : X.env.frame = some X.env.locals) (hex : X.ex = []) (hN : X.N.Nodup) (hi : X.N[i]? = some n) (hln : X.env.kindOf n = some .local) (hc : Names X x c) (hck : ExM X.K c ck) (tk : Takes X W)
    (hb : ∀ (W : WX) (pn : List (Addr × Obj)) (xe : Value → Shared → Prop), Takes (X.tr pn xe) W → PassesOwn (model X.prog X.w) X.A X.env xe → PSs (X.tr pn xe) body (tDSX X.K W wb))
    (hsu : ∀ a : Addr, PSs (X.suite a X.pn) (b₀ :: suite) (tDS X.K ws)) :
    PS X (.Try body [.ExceptHandler (some (.Name x np)) (some n) (b₀ :: suite) pos'] [] [] pos) (tDSX X.K W (wTryK ck i ws wb)) := by
  refine (ps_try_keep hs hf hex hN hi hln hc tk hb hsu).imp fun D σ H => ?_
  rintro ⟨ρ, M, F, D0, X0, s, q, g, gx⟩
  refine ⟨ρ, M, F, D0, _, s, q, g, fun ρ' C d M' σ' H' h t f s' => ?_⟩
  obtain ⟨b, e, hy, hn⟩ := h
  refine ⟨b, C, rfl, hck.ok C b e, fun hb a ha => ?_, fun hb => gx ρ' C d M' σ' H' (hn hb) t f s'⟩
  have tt : TupS X.K H' (upd H' a (exH a C d)) := .new ha
  have rm : RepM X.K (upd H' a (exH a C d)) (up M' a (.exo C d)) := s'.rm.new ha upd_same
  have ff := s'.fr.new (u := exH a C d) ha (.exo C d)
  have s2 := (s'.next tt ff rm).set (d := .ref a) (v := .ref a) rfl i
  have g2 := (g.from t f).from tt ff
  exact ⟨_, _, F, _, s2, hy hb a (s'.rm.none ha), ⟨fun ρ2 M2 σ2 H2 q2 t2 f2 s2 => g2.nx _ _ _ _ q2 t2 f2 (s2.none i), g2.rt, fun ρ2 M2 σ2 H2 q2 t2 f2 s2 => g2.bk _ _ _ _ q2 t2 f2 (s2.none i), fun ρ2 M2 σ2 H2 q2 t2 f2 s2 => g2.ct _ _ _ _ q2 t2 f2 (s2.none i)⟩⟩
end
end DL
namespace DL
open PySem PySem.Spec PyProof.Rows L2
def wBare (K : PySem.W.Frag) (c : Value) (ts : TS) (Wout : WX) (D : Ends) : WX := fun cls d σ H =>
  ∃ b C, cls = .ref C ∧ PySem.W.exmOne K cls c = some b ∧ (b = true → ∀ a, H a = none → ts D σ (upd H a (exH a C d))) ∧ (b = false → Wout cls d σ H)
section
variable {X : Cx} {x n : Str} {c : Value} {i : Nat} {body suite : List Stmt} {b₀ : Stmt} {np pos pos' : Pos} {tb : WX → TS} {ts : TS} {Wout : WX}
theorem ps_try_bare (hs : X.stack = X.env :: X.outer) (hf : X.env.frame = some X.env.locals) (hex : X.ex = []) (hc : Names X x c) (tk : Takes X Wout)
    (hb : ∀ (W : WX) (pn : List (Addr × Obj)) (xe : Value → Shared → Prop), Takes (X.tr pn xe) W → PassesOwn (model X.prog X.w) X.A X.env xe → PSs (X.tr pn xe) body (tb W))
    (hsu : ∀ (a : Addr), PSs (X.suite a X.pn) (b₀ :: suite) ts) :
    PS X (.Try body [.ExceptHandler (some (.Name x np)) none (b₀ :: suite) pos'] [] [] pos) (fun D σ H => tb (wBare X.K c ts Wout D) D σ H) := by
  refine ⟨fun pins s σ H D I h => ?_⟩
  have ok := I.ok
  have hfr : X.A.frames = some (X.env :: X.outer) := by rw [ok.frames, hs]
  refine wpAny_Try_except ?_
  refine wpAny_mono ((hb (wBare X.K c ts Wout D) (X.pn ++ pins) (fun e s₁ => wpAny (model X.prog X.w) X.A (noteFrame e X.env) (fun _ s₂ => wpAny (model X.prog X.w) X.A (setFlight e none) (fun _ s₃ =>
    wpAny (model X.prog X.w) X.A (handleBy e X.env [.ExceptHandler (some (.Name x np)) none (b₀ :: suite) pos']) (SP X pins D) X.xe s₃) X.xe s₂) X.xe s₁) (fun u s' xx => ?_) PassesOwn.looking).run [] s σ H D (I.toTry _) h) (fun f s1 hsp => ?_) (fun e s1 he => he)
  ·
    obtain ⟨a, B, sI, pins', σ', H', cls, d, rfl, J', nb, up, sky, na, os, ag, b, C, rfl, hb1, hyes, hno⟩ := xx
    have J : Inv X pins σ' H' sI := J'.ofTry ok
    have sky' : Sky B (X.env :: X.outer) a (Zc (.ref C) d) X.env.locals s'.heap := by rw [← hs]; exact sky
    show wpAny (model X.prog X.w) X.A (noteFrame (.ref a) X.env) _ _ _
    refine Sky.land Zc.steady hfr hf sky' fun h3 fl3 up3 => ?_
    have J3 : Inv X pins σ' H' { s' with heap := h3 } := J.landed nb fl3.1 (up.trans up3) os ag
    obtain ⟨oe3, vs3, he3, hz3, hd3⟩ := fl3.there
    have notFr : ∀ {h : Heap} {o : Obj} {vs : Array Value}, h.FunFrames B (X.env :: X.outer) → h.get? a = some o → o.data = .fields vs → a ∉ frs (X.env :: X.outer) := fun {h o vs} ff e dd hm => by
      obtain ⟨_, o', e', hnf⟩ := ff.mem hm
      rw [e] at e'; cases e'
      exact hnf _ dd
    have nfr := notFr fl3.2.2.1 he3 hd3
    have nL : a ≠ X.env.locals := fun z => nfr (List.mem_filterMap.mpr ⟨X.env, List.mem_cons_self, by rw [hf, z]⟩)
    have nF : a ∉ X.fs := fun hm => by
      obtain ⟨e, he, q⟩ := List.mem_filterMap.mp hm
      exact nfr (List.mem_filterMap.mpr ⟨e, List.mem_cons_of_mem _ he, q⟩)
    have nB : B.get? a = none := fl3.2.1
    have nI : ∀ o, sI.heap.get? a ≠ some o := fun o e => by
      have z := nb a o e (by rw [hs]; exact nfr)
      rw [nB] at z; cases z
    have n0 : X.s_0.heap.get? a = none := by
      cases e : X.s_0.heap.get? a with
      | none => rfl
      | some o =>
        obtain ⟨o', e'⟩ := J.base.there a o e (by rw [hex]; simp)
        exact absurd e' (nI o')
    have hpn : ∀ p ∈ X.pn ++ pins, p.1 ≠ a := fun p hp z => by
      obtain ⟨q1, _⟩ := J.pin p hp
      rw [z] at q1
      exact nI _ q1
    have S3 := J3.suite he3 hd3 na nL nF
    refine wpAny_handleBy_cons (codeAny_handlers_test ?_) (by intro q; cases q)
    have LT : PySem.W.Looks (model X.prog X.w) h3 (typeOf (.ref a)) (.ref C) := fun A Q E s k q => wpAny_typeOf_ref (k _ _ he3) (by rw [hz3.1]; exact q)
    have LM := PySem.W.exm_one (M := model X.prog X.w) (J3.kIn) LT hb1
    have test : ∀ {Q : Value → Shared → Prop} {E : Value → Shared → Prop}, Q c { s' with heap := h3 } → wpAny (model X.prog X.w) (X.A.mark (some (.ref a))) (eval (.Name x np) X.env) Q E { s' with heap := h3 } := fun {Q E} q => by
      obtain ⟨hg, hdbg, hm | ⟨hm, hv, hnn⟩⟩ := hc
      · exact ld_glob (X := X.suite a ((a, oe3) :: (X.pn ++ pins))) S3 hg hm q hdbg
      · exact ld_blt (X := X.suite a ((a, oe3) :: (X.pn ++ pins))) S3 hg hm hv q hnn hdbg
    refine test (LM.here ?_)
    cases b with
    | true =>
      refine codeAny_handlers_suite ?_
      refine HandSPX.lands_againZ fl3 fun h4 fl4 up4 => ?_
      have J4 : Inv X pins σ' H' { s' with heap := h4 } := J.landed nb fl4.1 ((up.trans up3).trans up4) os ag
      obtain ⟨oe4, vs4, he4, hz4, hd4⟩ := fl4.there
      have J5 : Inv X pins σ' (upd H' a (exH a C d)) { s' with heap := h4 } := keepExc J4 he4 hz4.1 hz4.2 ⟨_, hd4⟩ na n0 nL hpn
      refine wpAny_mono ((hsu a).run pins _ _ _ _ (toSuite J5 a) (hyes rfl a na)) (fun f s6 hsp => ?_) (fun _ _ z => False.elim z)
      cases f with
      | next =>
        obtain ⟨σ6, H6, S6, q6⟩ := hsp
        exact ⟨_, _, ofSuite S6 ok, q6⟩
      | brk =>
        obtain ⟨σ6, H6, S6, q6⟩ := hsp
        exact ⟨_, _, ofSuite S6 ok, q6⟩
      | cont =>
        obtain ⟨σ6, H6, S6, q6⟩ := hsp
        exact ⟨_, _, ofSuite S6 ok, q6⟩
      | ret u =>
        obtain ⟨v6, σ6, H6, S6, r6, q6⟩ := hsp
        exact ⟨_, _, _, ofSuite S6 ok, r6, q6⟩
    | false =>
      show wpAny _ X.A (handleBy (.ref a) X.env []) _ _ _
      refine wpAny_handleBy_nil ?_
      obtain ⟨k1, k2, k3, oe, vs, T, oT, ts', he, hz, hd, h1, hr⟩ := id fl3
      unfold PySem.passOn
      refine wpAny_bind (wpAny_field he hd h1 ?_)
      rw [if_neg (show ¬ ((Value.ref T == Value.none) = true) from by simp)]
      have fin : wpAny (model X.prog X.w) X.A (setFlight (.ref a) X.env.frame) (fun _ s4 => wpAny (model X.prog X.w) X.A (throw (.ref a) : Sem Flow) (SP X pins D) X.xe s4) X.xe { s' with heap := h3 } := by
        rw [hf]
        refine HandSPX.setFlight_upZ fl3 fun h4 hh4 up4 => wpAny_throw (tk _ _ ?_)
        exact ⟨a, B, sI, pins, σ', H', .ref C, d, rfl, J, nb, (up.trans up3).trans up4, .inr (.inr (by rw [hs]; exact hh4)), na, os, ag, hno rfl⟩
      first
        | exact wpAny_bind (wpAny_pure (wpAny_bind fin))
        | exact wpAny_bind fin
  · cases f with
    | next =>
      obtain ⟨σ', H', J', q⟩ := hsp
      exact wpAny_execs_nil ⟨σ', H', J'.ofTry ok, q⟩
    | brk =>
      obtain ⟨σ', H', J', q⟩ := hsp
      exact ⟨σ', H', J'.ofTry ok, q⟩
    | cont =>
      obtain ⟨σ', H', J', q⟩ := hsp
      exact ⟨σ', H', J'.ofTry ok, q⟩
    | ret u =>
      obtain ⟨v, σ', H', J', r, q⟩ := hsp
      exact ⟨v, σ', H', J'.ofTry ok, r, q⟩
end
def wTryB (ck : Addr → Option Bool) (ws : WS) (wb : WSX) : WSX := fun X0 D0 ρ M => wb (fun ρ' C d M' => ∃ b, ck C = some b ∧ (b = true → ∀ a, M' a = none → ws D0 ρ' (up M' a (.exo C d))) ∧ (b = false → X0 ρ' C d M')) D0 ρ M
section
variable {X : Cx} {x : Str} {c : Value} {body suite : List Stmt} {b₀ : Stmt} {np pos pos' : Pos} {wb : WSX} {ws : WS} {W : WX} {ck : Addr → Option Bool}
theorem psx_bare (hs : X.stack = X.env :: X.outer) (hf : X.env.frame = some X.env.locals) (hex : X.ex = []) (hc : Names X x c) (hck : ExM X.K c ck) (tk : Takes X W)
    (hb : ∀ (W : WX) (pn : List (Addr × Obj)) (xe : Value → Shared → Prop), Takes (X.tr pn xe) W → PassesOwn (model X.prog X.w) X.A X.env xe → PSs (X.tr pn xe) body (tDSX X.K W wb))
    (hsu : ∀ a : Addr, PSs (X.suite a X.pn) (b₀ :: suite) (tDS X.K ws)) :
    PS X (.Try body [.ExceptHandler (some (.Name x np)) none (b₀ :: suite) pos'] [] [] pos) (tDSX X.K W (wTryB ck ws wb)) := by
  refine (ps_try_bare hs hf hex hc tk hb hsu).imp fun D σ H => ?_
  rintro ⟨ρ, M, F, D0, X0, s, q, g, gx⟩
  refine ⟨ρ, M, F, D0, _, s, q, g, fun ρ' C d M' σ' H' h t f s' => ?_⟩
  obtain ⟨b, e, hy, hn⟩ := h
  refine ⟨b, C, rfl, hck.ok C b e, fun hb a ha => ?_, fun hb => gx ρ' C d M' σ' H' (hn hb) t f s'⟩
  have tt : TupS X.K H' (upd H' a (exH a C d)) := .new ha
  have rm : RepM X.K (upd H' a (exH a C d)) (up M' a (.exo C d)) := s'.rm.new ha upd_same
  have ff := s'.fr.new (u := exH a C d) ha (.exo C d)
  have s2 := s'.next tt ff rm
  exact ⟨_, _, F, _, s2, hy hb a (s'.rm.none ha), (g.from t f).from tt ff⟩
end
end DL
namespace DL
open PySem PySem.Spec PyProof.Rows L2
structure MethX (k : Co) (C : Addr) (m : Str) (S : XSpec) : Prop where
  cl : Cls k.K C
  ex : ∃ (n : Nat) (f : Addr) (fd : FuncData) (ps : List Str), FnOk k.prog k.w k.K k.mg k.base (L2.CX k.prog k.w) n f fd ps (spDX k.K S) ∧ Room n k.A ∧ Binds k.K fd ps [] ∧ Meth k.K C m f
def wMethX (C : Addr) (m : Str) (S : XSpec) (wo : WE) (u : WA) : WEX := fun ρ M Q E => wo ρ M fun x M1 => ∃ a fs, x = .ref a ∧ M1 a = some (.ins C fs) ∧ fs.lookup m = none ∧ u ρ M1 fun ds M2 => S (x :: ds) M2 Q (E ρ)
section
variable {X : Cx} {W : WX} {C : Addr} {m : Str} {S : XSpec} {o e : Expr} {es : List Expr} {wo : WE} {u : WA} {apos pos : Pos} {pl : Sem Bool}
theorem methx_of {σ : L2.St} {H : Hp} {Q : VK} (h : tDE X.K W (wMethX C m S wo u) σ H Q) : tD X.K wo σ H fun x H1 => ∃ a dx fs, x = .ref a ∧ H1 a = some (.ins C dx fs) ∧ fs.lookup m = none ∧ tDA X.K u σ H1 fun vs H2 => spDX X.K S (x :: vs) H2 Q (L2.WE W σ) := by
  obtain ⟨ρ, M, F, Q0, X0, s, q, g, gx⟩ := h
  refine ⟨ρ, M, F, _, s, q, fun x M1 v H1 q1 t1 f1 r1 p1 => ?_⟩
  obtain ⟨a, fs, rfl, ea, hl, q1⟩ := q1
  obtain ⟨dx, vs, e1, ps⟩ := r1 _ _ ea
  refine ⟨a, dx, vs, p1, e1, ps.lookup_none hl, ρ, M1, F, _, s.next t1 f1 r1, q1, fun ds M2 us H2 q2 t2 f2 r2 p2 => ?_⟩
  exact ⟨_, M2, F, Q0, X0 ρ, .cons (p1.stay t2) p2, r2, (s.fr.next f1).next f2, q2, (g.from t1 f1).from t2 f2, gox_at gx ((s.next t1 f1 r1).next t2 f2 r2) (t1.trans t2) (f1.trans f2)⟩
theorem pdx_meth (hM : MethX (co X) C m S) (tk : Takes X W) (ho : PE X o (tD X.K wo)) (ha : PA X (e :: es) (tDA X.K u)) (hs : (e :: es).all notStar = true) (hb : plainBase o = true) (hl : (e :: es).length < 30) (hline : (apos.endLine == pos.line) = true) :
    PE X (.Call (.Attribute o m apos) (e :: es) [] pos) (tDE X.K W (wMethX C m S wo u)) := by
  obtain ⟨n, f, fd, ps, F, hr, hbn, hm⟩ := hM.ex
  have hs' := hs
  rw [List.all_cons, Bool.and_eq_true] at hs'
  refine ⟨fun pins s σ H Q I h => ?_⟩
  refine PySem.W.methodCall_KW (thn (ho.run pins s σ H _ I (methx_of h)) fun u s1 ⟨x, H1, I1, rx, a, dx, fs, ex, ea, l, q⟩ => ?_) (ev_meth hb (form_of hs hl) hline)
  subst ex
  obtain rfl : u = Value.ref a := rx
  refine getmeth_ok I1 ea hM.cl hm l ?_
  refine PySem.W.callWith_K (first := [.ref a]) (h₀ := X.base) I.ok.mod.kin hm.kp (thn (ha.run pos pins s1 σ H1 _ I1 q) fun us s2 ⟨vs, H2, I2, r, q2⟩ => ⟨I2.kIn, ?_⟩) (star_of hs'.1 _ _) (back_any hs'.2)
  exact run_fnS (E := L2.WE W) (us := .ref a :: us) (vs := .ref a :: vs) F hr hbn (passAt tk σ) I2 (.cons rfl r) q2
theorem pdx_meth0 (hM : MethX (co X) C m S) (tk : Takes X W) (ho : PE X o (tD X.K wo)) (hb : plainBase o = true) (hline : (apos.endLine == pos.line) = true) :
    PE X (.Call (.Attribute o m apos) [] [] pos) (tDE X.K W (wMethX C m S wo wNil)) := by
  obtain ⟨n, f, fd, ps, F, hr, hbn, hm⟩ := hM.ex
  refine ⟨fun pins s σ H Q I h => ?_⟩
  refine PySem.W.methodCall_KW (thn (ho.run pins s σ H _ I (methx_of h)) fun u s1 ⟨x, H1, I1, rx, a, dx, fs, ex, ea, l, q⟩ => ?_) (ev_meth hb (form_of (es := []) rfl (by show 0 < 30; omega)) hline)
  subst ex
  obtain rfl : u = Value.ref a := rx
  refine getmeth_ok I1 ea hM.cl hm l ?_
  obtain ⟨ρ, M2, F', Q2, s2, q2, g2⟩ := q
  refine PySem.W.callWith_K0 (first := [.ref a]) I1.kIn hm.kp (run_fnS (E := L2.WE W) (us := [.ref a]) (vs := [.ref a]) F hr hbn (passAt tk σ) I1 (.cons rfl .nil) ?_)
  exact g2 [] M2 [] H1 q2 (.refl _) s2.fr.frm s2.rm .nil
end
inductive QE where
  | var (i : Nat) | non | bl (b : Bool) | str (x : Str)
  | isa (a : QE) (c : Cl) (f : D → Mp → Option Bool)
  | isT (a : QE) (cs : List (Str × Addr)) (f : D → Mp → Option Bool)
  | xf (a : QE) (C : Addr) (f : Str)
  | not_ (a : QE)
  | one (o : BoolOp) (a : QE)
  | bop (o : BoolOp) (a b : QE)
  | ife (t a b : QE)
  | int (i : Int)
  | cmp (o : CmpOp) (a b : QE)
  | l3 (a b d : QE)
  | ix (a b : QE)
  | bm1 (m : Bm) (a b : QE)
mutual
def QE.wp : QE → WE
  | .var i => wVar i
  | .non => wC .non
  | .bl b => wC (.bl b)
  | .str x => wC (.str x)
  | .isa a _ f => w1 (isaD f) a.wp
  | .isT a _ f => w1 (isaD f) a.wp
  | .xf a C f => w1 (xfD C f) a.wp
  | .not_ a => wNotV a.wp
  | .one _ a => a.wp
  | .bop o a b => match o with
    | .And => wAndV a.wp b.wp
    | .Or => wOrV a.wp b.wp
  | .ife t a b => wIf t.wpT a.wp b.wp
  | .int i => wC (.int i)
  | .cmp o a b => w2 (cmpF o) a.wp b.wp
  | .l3 a b d => wLst (wCons a.wp (wCons b.wp (wCons d.wp wNil)))
  | .ix a b => w2 ixD a.wp b.wp
  | .bm1 m a b => wBm m.ty m.spec a.wp (wCons b.wp wNil)
def QE.wpT : QE → WT
  | .var i => wTru (wVar i)
  | .bl b => wTru (wC (.bl b))
  | .isa a _ f => wTru (w1 (isaD f) a.wp)
  | .isT a _ f => wTru (w1 (isaD f) a.wp)
  | .not_ a => wNot a.wpT
  | .one _ a => a.wpT
  | .bop o a b => match o with
    | .And => wAnd a.wpT b.wpT
    | .Or => wOr a.wpT b.wpT
  | .cmp o a b => wTest (w2 (cmpF o) a.wp b.wp)
  | _ => fun _ _ _ => False
end
def nmsOk (c : Sc) : List (Str × Addr) → List Expr → Bool
  | [], [] => true
  | (x, _) :: cs, .Name y _ :: es => decide (x = y) && (glB c x && nmsOk c cs es)
  | _, _ => false
def QE.mt (c : Sc) : QE → Expr → Bool
  | .var i, x => match x with
    | .Name y _ => nmB c i y
    | _ => false
  | .non, x => match x with
    | .Constant .none _ _ => true
    | _ => false
  | .bl b, x => match x with
    | .Constant (.bool b') _ _ => decide (b = b')
    | _ => false
  | .str z, x => match x with
    | .Constant (.str z') _ _ => decide (z = z')
    | _ => false
  | .isa a k _, x => match x with
    | .Call (.Name n _) [l, .Name y _] [] _ => decide (n = "isinstance") && (glB c n && (a.mt c l && (notStar l && (glB c y && (match k with
      | .bty t => decide (y = Str.ofString t) && tyNames.contains t
      | .own z _ => decide (y = z))))))
    | _ => false
  | .isT a cs _, x => match x with
    | .Call (.Name n _) [l, .Tuple es _ _] [] _ => decide (n = "isinstance") && (glB c n && (a.mt c l && (notStar l && nmsOk c cs es)))
    | _ => false
  | .xf a _ f, x => match x with
    | .Attribute l g _ => decide (f = g) && (a.mt c l && plainBase l)
    | _ => false
  | .not_ a, x => match x with
    | .UnaryOp .Not l _ => a.mt c l
    | _ => false
  | .one o a, x => match x with
    | .BoolOp o' [l] _ => decide (o = o') && a.mt c l
    | _ => false
  | .bop o a b, x => match x with
    | .BoolOp o' (l :: l2 :: ls) p => decide (o = o') && (a.mt c l && b.mt c (.BoolOp o' (l2 :: ls) p))
    | _ => false
  | .ife t a b, x => match x with
    | .IfExp y l r _ => t.mt c y && (a.mt c l && b.mt c r)
    | _ => false
  | .int i, x => match x with
    | .Constant (.int j) _ _ => decide (i = j)
    | _ => false
  | .cmp o a b, x => match x with
    | .Compare l [o'] [r] _ => decide (o = o') && (a.mt c l && (b.mt c r && !behindInMarks o r))
    | _ => false
  | .l3 a b d, x => match x with
    | .List [l, m, r] _ => a.mt c l && (b.mt c m && (d.mt c r && (notStar l && (notStar m && notStar r))))
    | _ => false
  | .ix a b, x => match x with
    | .Subscript l r _ => a.mt c l && (b.mt c r && notSlice r)
    | _ => false
  | .bm1 m a b, x => match x with
    | .Call (.Attribute l n ap) [y] [] p => decide (n = m.nm) && (a.mt c l && (b.mt c y && (plainBase l && (notStar y && (ap.endLine == p.line)))))
    | _ => false
structure IsaT (k : Co) (cs : List (Str × Addr)) (f : D → Mp → Option Bool) : Prop where
  mi : k.mg "isinstance" = none
  cl : ∀ q ∈ cs, k.mg q.1 = some (.ref q.2)
  ok : ∀ H M d v b, RepM k.K H M → Rep k.K H d v → f d M = some b → ∃ t, TyY k.K H v t ∧ PySem.W.kitAny k.K t (cs.map fun q => .ref q.2) = some b
def QE.ok (k : Co) : QE → Prop
  | .isa a c f => Isa k c f ∧ a.ok k
  | .isT a cs f => IsaT k cs f ∧ cs.length ≤ 100 ∧ a.ok k
  | .xf a C f => Xf k.K C f ∧ a.ok k
  | .not_ a => a.ok k
  | .one _ a => a.ok k
  | .bop _ a b => a.ok k ∧ b.ok k
  | .ife t a b => t.ok k ∧ a.ok k ∧ b.ok k
  | .cmp _ a b => a.ok k ∧ b.ok k
  | .l3 a b d => a.ok k ∧ b.ok k ∧ d.ok k
  | .ix a b => a.ok k ∧ b.ok k
  | .bm1 _ a b => a.ok k ∧ b.ok k
  | _ => True
theorem QE.ok_of {k k' : Co} (hm : k.mg = k'.mg) (hK : k.K = k'.K) : ∀ {q : QE}, q.ok k → q.ok k'
  | .var _, h => h
  | .non, h => h
  | .bl _, h => h
  | .str _, h => h
  | .int _, h => h
  | .cmp _ a b, h => ⟨QE.ok_of (q := a) hm hK h.1, QE.ok_of (q := b) hm hK h.2⟩
  | .l3 a b d, h => ⟨QE.ok_of (q := a) hm hK h.1, QE.ok_of (q := b) hm hK h.2.1, QE.ok_of (q := d) hm hK h.2.2⟩
  | .ix a b, h => ⟨QE.ok_of (q := a) hm hK h.1, QE.ok_of (q := b) hm hK h.2⟩
  | .bm1 _ a b, h => ⟨QE.ok_of (q := a) hm hK h.1, QE.ok_of (q := b) hm hK h.2⟩
  | .isa a c f, h => by
    obtain ⟨⟨h1, h2, h3⟩, h4⟩ := h
    rw [hm] at h1
    rw [hK] at h3
    refine ⟨⟨h1, ?_, ?_⟩, QE.ok_of hm hK h4⟩
    · cases c <;> (simp only at h2 ⊢; rw [← hm]; exact h2)
    · cases c <;> exact h3
  | .isT a cs f, h => by
    obtain ⟨⟨h1, h2, h3⟩, h4, h5⟩ := h
    rw [hm] at h1 h2
    rw [hK] at h3
    exact ⟨⟨h1, h2, h3⟩, h4, QE.ok_of hm hK h5⟩
  | .xf a C f, h => by
    obtain ⟨h1, h2⟩ := h
    rw [hK] at h1
    exact ⟨h1, QE.ok_of hm hK h2⟩
  | .not_ a, h => QE.ok_of (q := a) hm hK h
  | .one _ a, h => QE.ok_of (q := a) hm hK h
  | .bop _ a b, h => ⟨QE.ok_of (q := a) hm hK h.1, QE.ok_of (q := b) hm hK h.2⟩
  | .ife t a b, h => ⟨QE.ok_of (q := t) hm hK h.1, QE.ok_of (q := a) hm hK h.2.1, QE.ok_of (q := b) hm hK h.2.2⟩
structure Gq (c : Sc) (X : Cx) : Prop where
  n : X.N = c.N
  nd : X.N.Nodup
  sc : X.env.scope = c.sc
  ru : Ru X
section
variable {c : Sc} {X : Cx}
theorem Gq.gl (g : Gq c X) {x : Str} (h : glB c x = true) : Gl X x ∧ (x == ("__debug__" : Str)) = false := by
  obtain ⟨h1, h2⟩ := band h
  refine ⟨?_, bnot h2⟩
  show X.env.scope.names.lookup x = _
  rw [g.sc]
  exact of_decide_eq_true h1
theorem Gq.var (g : Gq c X) {i : Nat} {x : Str} {p : Pos} (h : nmB c i x = true) : PE X (.Name x p) (tVar i) := by
  obtain ⟨h1, h2⟩ := band h
  obtain ⟨h2, h3⟩ := band h2
  obtain ⟨h3, h4⟩ := band h3
  refine pe_var (by rw [g.n]; exact of_decide_eq_true h1) ?_ (bnot h3) (bnot h4)
  unfold Vis
  rw [g.sc]
  split at h2
  · rename_i e; exact .inl e
  · rename_i e; exact .inr (.inl e)
  · rename_i e; exact .inr (.inr e)
  · cases h2
def rIsiTY (K : PySem.W.Frag) : List V → Hp → VK → Prop := fun xs H Q => ∃ (x : V) (tp : Addr) (cs : List V) (t : Value) (us : List Value) (b : Bool), xs = [x, .ref tp] ∧ H tp = some (.tup cs) ∧ Paired ClsV cs us ∧ TyY K H x t ∧ PySem.W.kitAny K t us = some b ∧ Q (.bl b) H
theorem call_isiTY : CallR X (.builtin "isinstance") (rIsiTY X.K) := by
  intro pins s σ H xs us Q I r h
  obtain ⟨x, tp, cs, t, ws, b, rfl, hT, k, ty, e, q⟩ := h
  obtain ⟨u1, u2, rfl, r1, r2⟩ := vals2 r
  cases (show u2 = Value.ref tp from r2)
  obtain ⟨P, Z, p, hx⟩ := kit_ofY I r1 ty
  obtain ⟨_, its, rv, o, h1, h2, n, h3⟩ := (show ObjOk X.prog X.w H s.heap tp (.tup cs) from I.hok tp _ hT)
  have e3 := ClsV.all k rv
  subst e3
  obtain ⟨oc, od, dt, sl⟩ := o
  simp only at h2 h3
  subst h2 h3
  exact PySem.W.kia_tup Z I.kIn p h1 e hx fun tk => ⟨.bl b, H, I.tok tk, rfl, q⟩
theorem nms_pa (g : Gq c X) : ∀ {cs : List (Str × Addr)} {es : List Expr}, nmsOk c cs es = true → (∀ q ∈ cs, X.mg q.1 = some (.ref q.2)) → PA X es (fun _ H Q => Q (cs.map fun q => .ref q.2) H)
  | [], [], _, _ => pa_nil.imp fun σ H Q h => h
  | (x, C) :: cs, .Name y p :: es, h, hm => by
    obtain ⟨h1, g1⟩ := band h
    obtain ⟨h2, h3⟩ := band g1
    obtain rfl := of_decide_eq_true h1
    obtain ⟨gl, gd⟩ := g.gl h2
    have ih := nms_pa g h3 fun q hq => hm q (List.mem_cons_of_mem _ hq)
    exact (pa_cons (pe_glob (v := .ref C) gl (hm _ List.mem_cons_self) rfl gd) ih (star_of rfl _ _)).imp fun σ H Q h => h
  | [], _ :: _, h, _ => by cases h
  | _ :: _, [], h, _ => by cases h
  | (_, _) :: _, .BoolOp _ _ _ :: _, h, _ => by cases h
theorem cls_paired : ∀ cs : List (Str × Addr), Paired ClsV (cs.map fun q => V.ref q.2) (cs.map fun q => Value.ref q.2)
  | [] => .nil
  | q :: cs => .cons (.own q.2) (cls_paired cs)
theorem isaT_pe {f : D → Mp → Option Bool} {cs : List (Str × Addr)} {a : Expr} {es : List Expr} {wa : WE} {pos p p2 : Pos} {j : Nat} (g : Gq c X) (k : IsaT (co X) cs f) (hl : cs.length ≤ 100) (ha : PE X a (tD X.K wa)) (hs : notStar a = true) (hg : Gl X "isinstance") (hn : nmsOk c cs es = true) :
    PE X (.Call (.Name "isinstance" p) [a, .Tuple es j p2] [] pos) (tD X.K (w1 (isaD f) wa)) := by
  refine (pe_callB call_isiTY hg k.mi PyProof.Rows.boot_isinstance (pa_cons ha (pa_cons (pe_tup (nms_pa g hn k.cl)) pa_nil) (star_of hs _ _)) (by decide) (by decide) (star_of hs _ _) rfl).imp fun σ H Q => ?_
  rintro ⟨ρ, M, F, Q0, s, q, gg⟩
  refine ⟨ρ, M, F, _, s, q, fun x M1 v H1 q1 t1 f1 r1 p1 => ⟨by rw [List.length_map, sizeLine_eq]; omega, fun tp htp => ?_⟩⟩
  obtain ⟨b, e, q1⟩ := q1
  have tt : TupS X.K H1 (upd H1 tp (.tup (cs.map fun q => V.ref q.2))) := .new htp
  have r2 := r1.more (u := .tup (cs.map fun q => V.ref q.2)) htp
  have ff := (s.fr.next f1).more (u := .tup (cs.map fun q => V.ref q.2)) htp
  obtain ⟨t, ty, kt⟩ := k.ok _ M1 x v b r2 (p1.stay tt) e
  exact ⟨v, tp, _, t, _, b, rfl, upd_same, cls_paired cs, ty, kt, gg _ M1 _ _ q1 (t1.trans tt) (f1.trans ff) r2 rfl⟩
mutual
theorem QE.snd (g : Gq c X) : ∀ (q : QE) (x : Expr), q.ok (co X) → q.mt c x = true → PE X x (tD X.K q.wp)
  | .var i, x, ok, h => by
    unfold QE.mt at h
    split at h
    · unfold QE.wp; exact pd_var (x := "") (g.var h)
    · cases h
  | .non, x, ok, h => by
    unfold QE.mt at h
    split at h
    · unfold QE.wp; exact pd_c pe_non fun H => by unfold Rep; rfl
    · cases h
  | .bl b, x, ok, h => by
    unfold QE.mt at h
    split at h
    · obtain rfl := of_decide_eq_true h
      unfold QE.wp; exact pd_c pe_bl fun H => by unfold Rep; rfl
    · cases h
  | .str z, x, ok, h => by
    unfold QE.mt at h
    split at h
    · obtain rfl := of_decide_eq_true h
      unfold QE.wp; exact pd_c pe_str fun H => by unfold Rep; rfl
    · cases h
  | .isa a k f, x, ok, h => by
    unfold QE.mt at h
    split at h
    · obtain ⟨h1, g1⟩ := band h
      obtain ⟨h2, g2⟩ := band g1
      obtain ⟨h3, g3⟩ := band g2
      obtain ⟨h4, g4⟩ := band g3
      obtain ⟨h5, h6⟩ := band g4
      obtain rfl := of_decide_eq_true h1
      unfold QE.wp
      refine isa_pe ok.1 (QE.snd g a _ ok.2 h3) h4 (g.gl h2).1 (g.gl h5) ?_
      cases k with
      | bty t =>
        obtain ⟨h6, h7⟩ := band h6
        exact ⟨of_decide_eq_true h6, h7⟩
      | own z C => exact of_decide_eq_true h6
    · cases h
  | .isT a cs f, x, ok, h => by
    unfold QE.mt at h
    split at h
    · obtain ⟨h1, g1⟩ := band h
      obtain ⟨h2, g2⟩ := band g1
      obtain ⟨h3, g3⟩ := band g2
      obtain ⟨h4, h5⟩ := band g3
      obtain rfl := of_decide_eq_true h1
      unfold QE.wp
      exact isaT_pe g ok.1 ok.2.1 (QE.snd g a _ ok.2.2 h3) h4 (g.gl h2).1 h5
    · cases h
  | .xf a C f, x, ok, h => by
    unfold QE.mt at h
    split at h
    · obtain ⟨h1, g1⟩ := band h
      obtain ⟨h2, h3⟩ := band g1
      obtain rfl := of_decide_eq_true h1
      unfold QE.wp; exact pd_xf ok.1 (QE.snd g a _ ok.2 h2) h3
    · cases h
  | .not_ a, x, ok, h => by
    unfold QE.mt at h
    split at h
    · unfold QE.wp; exact pd_not (QE.snd g a _ ok h)
    · cases h
  | .one o a, x, ok, h => by
    unfold QE.mt at h
    split at h
    · obtain ⟨h1, h2⟩ := band h
      obtain rfl := of_decide_eq_true h1
      unfold QE.wp; exact pe_one (QE.snd g a _ ok h2)
    · cases h
  | .bop o a b, x, ok, h => by
    unfold QE.mt at h
    split at h
    · obtain ⟨h1, g1⟩ := band h
      obtain ⟨h2, h3⟩ := band g1
      obtain rfl := of_decide_eq_true h1
      have i1 := QE.snd g a _ ok.1 h2
      have i2 := QE.snd g b _ ok.2 h3
      unfold QE.wp
      cases o with
      | And => exact pd_and i1 i2
      | Or => exact pd_or i1 i2
    · cases h
  | .ife t a b, x, ok, h => by
    unfold QE.mt at h
    split at h
    · obtain ⟨h1, g1⟩ := band h
      obtain ⟨h2, h3⟩ := band g1
      unfold QE.wp; exact pd_if (QE.sndT g t _ ok.1 h1) (QE.snd g a _ ok.2.1 h2) (QE.snd g b _ ok.2.2 h3)
    · cases h
  | .int i, x, ok, h => by
    unfold QE.mt at h
    split at h
    · obtain rfl := of_decide_eq_true h
      unfold QE.wp; exact pd_c pe_int fun H => by unfold Rep; rfl
    · cases h
  | .cmp o a b, x, ok, h => by
    unfold QE.mt at h
    split at h
    · obtain ⟨h1, g1⟩ := band h
      obtain ⟨h2, g2⟩ := band g1
      obtain ⟨h3, h4⟩ := band g2
      obtain rfl := of_decide_eq_true h1
      unfold QE.wp; exact pd_cmp (cmpF_ok g.ru o) (QE.snd g a _ ok.1 h2) (QE.snd g b _ ok.2 h3) (bnot h4)
    · cases h
  | .l3 a b d, x, ok, h => by
    unfold QE.mt at h
    split at h
    · obtain ⟨h1, g1⟩ := band h
      obtain ⟨h2, g2⟩ := band g1
      obtain ⟨h3, g3⟩ := band g2
      obtain ⟨h4, g4⟩ := band g3
      obtain ⟨h5, h6⟩ := band g4
      unfold QE.wp; exact pd_lst (pda_cons (QE.snd g a _ ok.1 h1) (pda_cons (QE.snd g b _ ok.2.1 h2) (pda_cons (QE.snd g d _ ok.2.2 h3) pda_nil (star_of h6 _ _)) (star_of h5 _ _)) (star_of h4 _ _))
    · cases h
  | .ix a b, x, ok, h => by
    unfold QE.mt at h
    split at h
    · obtain ⟨h1, g1⟩ := band h
      obtain ⟨h2, h3⟩ := band g1
      unfold QE.wp; exact pd_ix (QE.snd g a _ ok.1 h1) (QE.snd g b _ ok.2 h2) (ix_plain h3)
    · cases h
  | .bm1 m a b, x, ok, h => by
    unfold QE.mt at h
    split at h
    · obtain ⟨h1, g1⟩ := band h
      obtain ⟨h2, g2⟩ := band g1
      obtain ⟨h3, g3⟩ := band g2
      obtain ⟨h4, g4⟩ := band g3
      obtain ⟨h5, h6⟩ := band g4
      obtain rfl := of_decide_eq_true h1
      unfold QE.wp; exact m.pe g.ru (QE.snd g a _ ok.1 h2) (pda_cons (QE.snd g b _ ok.2 h3) pda_nil (star_of h5 _ _)) h4 (by simp [h5]) (by show 1 < 30; decide) h6
    · cases h
theorem QE.sndT (g : Gq c X) : ∀ (q : QE) (x : Expr), q.ok (co X) → q.mt c x = true → PT X x (tDT X.K q.wpT)
  | .var i, x, ok, h => by
    unfold QE.mt at h
    split at h
    · unfold QE.wpT; exact pdt_truth (pd_var (x := "") (g.var h)) (test_plain rfl _)
    · cases h
  | .bl b, x, ok, h => by
    unfold QE.mt at h
    split at h
    · obtain rfl := of_decide_eq_true h
      unfold QE.wpT; exact pdt_truth (pd_c pe_bl fun H => by unfold Rep; rfl) (test_plain rfl _)
    · cases h
  | .isa a k f, x, ok, h => by
    have i1 := QE.snd g (.isa a k f) x ok h
    unfold QE.mt at h
    split at h
    · unfold QE.wpT
      unfold QE.wp at i1
      exact pdt_truth i1 (test_plain rfl _)
    · cases h
  | .isT a cs f, x, ok, h => by
    have i1 := QE.snd g (.isT a cs f) x ok h
    unfold QE.mt at h
    split at h
    · unfold QE.wpT
      unfold QE.wp at i1
      exact pdt_truth i1 (test_plain rfl _)
    · cases h
  | .not_ a, x, ok, h => by
    unfold QE.mt at h
    split at h
    · unfold QE.wpT; exact pdt_not (QE.sndT g a _ ok h)
    · cases h
  | .one o a, x, ok, h => by
    unfold QE.mt at h
    split at h
    · obtain ⟨h1, h2⟩ := band h
      obtain rfl := of_decide_eq_true h1
      unfold QE.wpT
      cases o with
      | And => exact (pw_and1 (QE.sndT g a _ ok h2)).pt
      | Or => exact (pw_or1 (QE.sndT g a _ ok h2)).pt
    · cases h
  | .bop o a b, x, ok, h => by
    unfold QE.mt at h
    split at h
    · obtain ⟨h1, g1⟩ := band h
      obtain ⟨h2, h3⟩ := band g1
      obtain rfl := of_decide_eq_true h1
      have i1 := QE.sndT g a _ ok.1 h2
      have i2 := QE.sndW g b _ _ _ ok.2 h3
      unfold QE.wpT
      cases o with
      | And => exact (pdw_and i1 i2).pt
      | Or => exact (pdw_or i1 i2).pt
    · cases h
  | .cmp o a b, x, ok, h => by
    unfold QE.mt at h
    split at h
    · obtain ⟨h1, g1⟩ := band h
      obtain ⟨h2, g2⟩ := band g1
      obtain ⟨h3, h4⟩ := band g2
      obtain rfl := of_decide_eq_true h1
      unfold QE.wpT; exact pdt_cmp (cmpF_ok g.ru o) (QE.snd g a _ ok.1 h2) (QE.snd g b _ ok.2 h3) (bnot h4)
    · cases h
  | .int _, x, ok, h => by unfold QE.wpT; exact never_t
  | .l3 _ _ _, x, ok, h => by unfold QE.wpT; exact never_t
  | .ix _ _, x, ok, h => by unfold QE.wpT; exact never_t
  | .bm1 _ _ _, x, ok, h => by unfold QE.wpT; exact never_t
  | .non, x, ok, h => by unfold QE.wpT; exact never_t
  | .str _, x, ok, h => by unfold QE.wpT; exact never_t
  | .xf _ _ _, x, ok, h => by unfold QE.wpT; exact never_t
  | .ife _ _ _, x, ok, h => by unfold QE.wpT; exact never_t
theorem QE.sndW (g : Gq c X) : ∀ (q : QE) (o : BoolOp) (l : List Expr) (p : Pos), q.ok (co X) → q.mt c (.BoolOp o l p) = true → PW X (.BoolOp o l p) (tDT X.K q.wpT)
  | .one o a, o', l, p, ok, h => by
    unfold QE.mt at h
    split at h
    · rename_i e
      cases e
      obtain ⟨h1, h2⟩ := band h
      obtain rfl := of_decide_eq_true h1
      unfold QE.wpT
      cases o with
      | And => exact pw_and1 (QE.sndT g a _ ok h2)
      | Or => exact pw_or1 (QE.sndT g a _ ok h2)
    · cases h
  | .bop o a b, o', l, p, ok, h => by
    unfold QE.mt at h
    split at h
    · rename_i e
      cases e
      obtain ⟨h1, g1⟩ := band h
      obtain ⟨h2, h3⟩ := band g1
      obtain rfl := of_decide_eq_true h1
      have i1 := QE.sndT g a _ ok.1 h2
      have i2 := QE.sndW g b _ _ _ ok.2 h3
      unfold QE.wpT
      cases o with
      | And => exact pdw_and i1 i2
      | Or => exact pdw_or i1 i2
    · cases h
  | .var _, o', l, p, ok, h => by unfold QE.mt at h; cases h
  | .bl _, o', l, p, ok, h => by unfold QE.mt at h; cases h
  | .isa _ _ _, o', l, p, ok, h => by unfold QE.mt at h; cases h
  | .isT _ _ _, o', l, p, ok, h => by unfold QE.mt at h; cases h
  | .not_ _, o', l, p, ok, h => by unfold QE.mt at h; cases h
  | .non, o', l, p, ok, h => by unfold QE.mt at h; cases h
  | .str _, o', l, p, ok, h => by unfold QE.mt at h; cases h
  | .xf _ _ _, o', l, p, ok, h => by unfold QE.mt at h; cases h
  | .ife _ _ _, o', l, p, ok, h => by unfold QE.mt at h; cases h
  | .int _, o', l, p, ok, h => by unfold QE.mt at h; cases h
  | .cmp _ _ _, o', l, p, ok, h => by unfold QE.mt at h; cases h
  | .l3 _ _ _, o', l, p, ok, h => by unfold QE.mt at h; cases h
  | .ix _ _, o', l, p, ok, h => by unfold QE.mt at h; cases h
  | .bm1 _ _ _, o', l, p, ok, h => by unfold QE.mt at h; cases h
end
end
def wParX (i j : Nat) (w : WEX) (u : WE) : WSX := fun X0 D0 ρ M => w ρ M (fun d M1 => u ρ M1 fun d2 M2 => D0.nx ((ρ.set i (some d)).set j (some d2)) M2) X0
theorem psx_par {X : Cx} {W : WX} {i j : Nat} {st : Stmt} {a b : Expr} {w : WEX} {u : WE} (hp : ∀ t : TA, PA X [a, b] t → PS X st (tPar i j t)) (ha : PE X a (tDE X.K W w)) (hb : PE X b (tD X.K u)) (hsa : notStar a = true) (hsb : notStar b = true) : PS X st (tDSX X.K W (wParX i j w u)) :=
  (hp _ (pa_cons ha (pa_cons hb pa_nil (star_of hsb _ _)) (star_of hsa _ _))).imp fun D σ H => by
    rintro ⟨ρ, M, F, D0, X0, s, q, g, gx⟩
    refine ⟨ρ, M, F, _, X0, s, q, fun d M1 v H1 q1 t1 f1 r1 p1 => ⟨ρ, M1, F, _, s.next t1 f1 r1, q1, fun d2 M2 v2 H2 q2 t2 f2 r2 p2 => ⟨v, v2, rfl, ?_⟩⟩, gx⟩
    exact g.nx _ M2 _ H2 q2 (t1.trans t2) (f1.trans f2) ((((s.next t1 f1 r1).next t2 f2 r2).set (p1.stay t2) i).set p2 j)
def wTup2X (w : WEX) (u : WE) : WEX := fun ρ M Q E => w ρ M (fun d M1 => u ρ M1 fun d2 M2 => Q (.tup [d, d2]) M2) E
theorem pdx_tup2 {X : Cx} {W : WX} {a b : Expr} {w : WEX} {u : WE} {k : Nat} {pos : Pos} (ha : PE X a (tDE X.K W w)) (hb : PE X b (tD X.K u)) (hsa : notStar a = true) (hsb : notStar b = true) : PE X (.Tuple [a, b] k pos) (tDE X.K W (wTup2X w u)) :=
  (pe_tup (pa_cons ha (pa_cons hb pa_nil (star_of hsb _ _)) (star_of hsa _ _))).imp fun σ H Q => by
    rintro ⟨ρ, M, F, Q0, X0, s, q, g, gx⟩
    refine ⟨ρ, M, F, _, X0, s, q, fun d M1 v H1 q1 t1 f1 r1 p1 => ⟨ρ, M1, F, _, s.next t1 f1 r1, q1, fun d2 M2 v2 H2 q2 t2 f2 r2 p2 => ⟨by show 2 ≤ sizeLine; rw [sizeLine_eq]; omega, fun p hp => ?_⟩⟩, gx⟩
    refine ((g.from t1 f1).from t2 f2) (.tup [d, d2]) M2 _ _ q2 (.new hp) (((s.fr.next f1).next f2).more hp) (r2.more hp) ?_
    unfold Rep
    exact ⟨p, [v, v2], rfl, .of upd_same, .cons ((p1.stay t2).stay (.new hp)) (.cons (p2.stay (.new hp)) .nil)⟩
abbrev WL := Mp → DQ → DXE → Prop
def wAsk (i : Nat) (f c' : Addr) (q : Str) (L : WL) : WEX := fun ρ M Q X0 => ρ[i]? = some (some (.ref f)) ∧ M c' = some (.cod q) ∧ L M Q (X0 ρ)
def AskAt (X : Cx) (i : Nat) (f c' : Addr) (q : Str) (L : WL) : Prop := ∀ (W : WX) (pn : List (Addr × Obj)) (xe : Value → Shared → Prop) (a : Str) (p1 p2 : Pos), Takes (X.tr pn xe) W → X.N[i]? = some a → Vis X.env.scope a → (a == ("__debug__" : Str)) = false → (a == ("__classdict__" : Str)) = false →
  PE (X.tr pn xe) (.Call (.Name a p1) [] [] p2) (tDE X.K W (wAsk i f c' q L))
def wLenX (w : WEX) : WEX := fun ρ M Q E => w ρ M (fun d M1 => lenS [d] M1 Q) E
theorem pdx_len {X : Cx} {W : WX} {a : Expr} {w : WEX} {p pos : Pos} (ha : PE X a (tDE X.K W w)) (hs : notStar a = true) (hg : Gl X "len") (hm : X.mg "len" = none) : PE X (.Call (.Name "len" p) [a] [] pos) (tDE X.K W (wLenX w)) :=
  (pe_callB cd_len hg hm PySem.boot_len (pa_cons ha pa_nil (star_of hs _ _)) (by decide) (by decide) (star_of hs _ _) rfl).imp fun σ H Q => by
    rintro ⟨ρ, M, F, Q0, X0, s, q, g, gx⟩
    exact ⟨ρ, M, F, _, X0, s, q, fun d M1 v H1 q1 t1 f1 r1 p1 => ⟨[d], M1, F, Q0, .cons p1 .nil, r1, s.fr.next f1, q1, g.from t1 f1⟩, gx⟩
inductive QS where
  | one (j : Nat) (q : QE)
  | cons (j : Nat) (q : QE) (r : QS)
  | ifa (t : QE) (j : Nat) (q : QE)
def QS.wp : QS → WS
  | .ifa t j q => wSeq (wIfS t.wpT (wSeq (wAsg q.wp (.name j)) wNext) wNext) wNext
  | .one j q => wSeq (wAsg q.wp (.name j)) wNext
  | .cons j q r => wSeq (wAsg q.wp (.name j)) r.wp
def nmU : List Expr → Option Str
  | [x] => match x with
    | .Name u _ => some u
    | _ => none
  | _ => none
theorem nmU_inv {l : List Expr} {u : Str} (h : nmU l = some u) : ∃ p, l = [.Name u p] := by
  unfold nmU at h
  split at h
  · split at h
    · injection h with h; subst h; exact ⟨_, rfl⟩
    · cases h
  · cases h
def asgV : Stmt → Option (List Expr × Expr)
  | .Assign l v _ => some (l, v)
  | _ => none
theorem asgV_inv {s : Stmt} {l : List Expr} {v : Expr} (h : asgV s = some (l, v)) : ∃ p, s = .Assign l v p := by
  unfold asgV at h
  split at h
  · injection h with h; injection h with h1 h2; subst h1 h2; exact ⟨_, rfl⟩
  · cases h
def asgB (c : Sc) (j : Nat) (q : QE) (u : Str) (v : Expr) : Bool := decide (c.N[j]? = some u) && (decide (c.sc.names.lookup u = some .local) && (q.mt c v && !isComp v))
def asgM (c : Sc) (j : Nat) (q : QE) (s : Stmt) : Bool := match asgV s with
  | some (l, v) => match nmU l with
    | some u => asgB c j q u v
    | none => false
  | none => false
theorem asgM_inv {c : Sc} {j : Nat} {q : QE} {s : Stmt} (h : asgM c j q s = true) : ∃ u v p p2, s = .Assign [.Name u p] v p2 ∧ asgB c j q u v = true := by
  unfold asgM at h
  split at h
  · rename_i l v e
    split at h
    · rename_i u e2
      obtain ⟨p2, rfl⟩ := asgV_inv e
      obtain ⟨p, rfl⟩ := nmU_inv e2
      exact ⟨_, _, _, _, rfl, h⟩
    · cases h
  · cases h
def ifV : Stmt → Option (Expr × Stmt)
  | .If t [s] [] _ => some (t, s)
  | _ => none
theorem ifV_inv {s : Stmt} {t : Expr} {r : Stmt} (h : ifV s = some (t, r)) : ∃ p, s = .If t [r] [] p := by
  unfold ifV at h
  split at h
  · injection h with h; injection h with h1 h2; subst h1 h2; exact ⟨_, rfl⟩
  · cases h
def ifaM (c : Sc) (t : QE) (j : Nat) (q : QE) (s : Stmt) : Bool := match ifV s with
  | some (x, r) => t.mt c x && asgM c j q r
  | none => false
theorem ifaM_inv {c : Sc} {t : QE} {j : Nat} {q : QE} {s : Stmt} (h : ifaM c t j q s = true) : ∃ x r p, s = .If x [r] [] p ∧ t.mt c x = true ∧ asgM c j q r = true := by
  unfold ifaM at h
  split at h
  · rename_i x r e
    obtain ⟨p, rfl⟩ := ifV_inv e
    obtain ⟨h1, h2⟩ := band h
    exact ⟨_, _, _, rfl, h1, h2⟩
  · cases h
def QS.mt (c : Sc) : QS → List Stmt → Bool
  | .ifa t j q, ss => match ss with
    | [s] => ifaM c t j q s
    | _ => false
  | .one j q, ss => match ss with
    | [s] => asgM c j q s
    | _ => false
  | .cons j q r, ss => match ss with
    | s :: ss => asgM c j q s && r.mt c ss
    | _ => false
def QS.ok (k : Co) : QS → Prop
  | .ifa t _ q => t.ok k ∧ q.ok k
  | .one _ q => q.ok k
  | .cons _ q r => q.ok k ∧ r.ok k
theorem QS.ok_of {k k' : Co} (hm : k.mg = k'.mg) (hK : k.K = k'.K) : ∀ {q : QS}, q.ok k → q.ok k'
  | .ifa t _ q, h => ⟨QE.ok_of (q := t) hm hK h.1, QE.ok_of (q := q) hm hK h.2⟩
  | .one _ q, h => QE.ok_of (q := q) hm hK h
  | .cons _ q r, h => ⟨QE.ok_of (q := q) hm hK h.1, QS.ok_of (q := r) hm hK h.2⟩
def wCallA (S : Spec) (w : WEX) (u : WA) : WEX := fun ρ M Q E => w ρ M (fun d M1 => u ρ M1 fun ds M2 => S (d :: ds) M2 Q) E
theorem pdx_callA {X : Cx} {W : WX} {x : Str} {n : Nat} {S : Spec} {p pos : Pos} {a : Expr} {es : List Expr} {w : WEX} {u : WA} (hx : Callee (co X) x (n + 1) [] S) (hc : X.calm = true) (hg : Gl X x) (hdb : (x == ("__debug__" : Str)) = false) (ha : PE X a (tDE X.K W w)) (hr : PA X es (tDN X.K n u)) (hs : (a :: es).all notStar = true) :
    PE X (.Call (.Name x p) (a :: es) [] pos) (tDE X.K W (wCallA S w u)) := by
  obtain ⟨f, hm, hk, run⟩ := hx
  refine ⟨fun pins s σ H Q I h => ?_⟩
  refine wpAny_Call_Name_kw (ld_glob I hg hm ?_ hdb)
  obtain ⟨ρ, M, F, Q0, X0, s0, q, g, gx⟩ := h
  rw [List.all_cons, Bool.and_eq_true] at hs
  refine PySem.W.callWith_K (h₀ := X.base) I.ok.mod.kin hk (thn ((pa_cons ha hr (star_of hs.1 _ _)).run pos pins s σ H (fun vs H1 => vs.length = n + 1 ∧ rDL X.K S vs H1 Q) I ⟨ρ, M, F, _, X0, s0, q, fun d M1 v H1 q1 t1 f1 r1 p1 => ⟨ρ, M1, F, _, s0.next t1 f1 r1, q1, fun ds M2 vs H2 hl q2 t2 f2 r2 p2 => ⟨by rw [List.length_cons, hl], d :: ds, M2, F, Q0, .cons (p1.stay t2) p2, r2, (s0.fr.next f1).next f2, q2, (g.from t1 f1).from t2 f2⟩⟩, gx⟩) fun us s1 ⟨vs, H1, I1, r, hl, q⟩ => ⟨I1.kIn, ?_⟩) (star_of hs.1 _ _) (back_any hs.2)
  exact run X rfl hc pins s1 σ H1 Q us [] vs [] I1 r .nil hl rfl (by rw [List.append_nil]; exact q)
def wCallVX (i : Nat) (os : List (Str × Addr × XSpec)) (u : WA) : WEX := fun ρ M Q E => ∃ o ∈ os, ρ[i]? = some (some (.ref o.2.1)) ∧ wCallX o.2.2 u ρ M Q E
def cvxAll (k : Co) (n : Nat) : List (Str × Addr × XSpec) → Prop
  | [] => True
  | o :: os => (CalleeX k o.1 n [] o.2.2 ∧ k.mg o.1 = some (.ref o.2.1)) ∧ cvxAll k n os
theorem cvxAll_mem {k : Co} {n : Nat} : ∀ {os : List (Str × Addr × XSpec)}, cvxAll k n os → ∀ o ∈ os, CalleeX k o.1 n [] o.2.2 ∧ k.mg o.1 = some (.ref o.2.1)
  | [], _, o, h => by cases h
  | a :: os, q, o, h => by
    rcases List.mem_cons.mp h with rfl | h
    · exact q.1
    · exact cvxAll_mem q.2 o h
theorem pdx_callV {c : Sc} {X : Cx} {W : WX} {i n : Nat} {y : Str} {os : List (Str × Addr × XSpec)} {p pos : Pos} {e : Expr} {es : List Expr} {u : WA} (g : Gd c X) (tk : Takes X W) (hx : cvxAll (co X) n os) (hy : nmB c i y = true) (ha : PA X (e :: es) (tDN X.K n u)) (hs : (e :: es).all notStar = true) :
    PE X (.Call (.Name y p) (e :: es) [] pos) (tDE X.K W (wCallVX i os u)) := by
  refine ⟨fun pins s σ H Q I h => ?_⟩
  obtain ⟨ρ, M, F, Q0, X0, st, ⟨o, ho, e0, q⟩, go, gx⟩ := h
  obtain ⟨⟨f, hm, hk, run⟩, hm2⟩ := cvxAll_mem hx o ho
  have hf : o.2.1 = f := by
    have e : some (Value.ref f) = some (Value.ref o.2.1) := hm.symm.trans hm2
    injection e with e
    injection e with e
    exact e.symm
  rw [hf] at e0
  obtain ⟨v0, ev0, rv0⟩ := st.rs.2 i _ e0
  cases rv0
  have nameRun := (g.var (p := p) hy).run pins s σ H (fun v H1 => v = .ref f ∧ H1 = H) I ⟨_, ev0, rfl, rfl⟩
  refine wpAny_Call_Name_kw (thn nameRun fun u s1 ⟨v, H1, I1, r1, q1, q2⟩ => ?_)
  subst q1 q2
  cases (show u = Value.ref f from r1)
  rw [List.all_cons, Bool.and_eq_true] at hs
  refine PySem.W.callWith_K (h₀ := X.base) I1.ok.mod.kin hk (thn (ha.run pos pins s1 σ H1 (fun vs H2 => vs.length = n ∧ rDX X.K o.2.2 vs H2 Q (L2.WE W σ)) I1 ⟨ρ, M, F, _, st, q, fun ds M1 vs H2 hl q1 t1 f1 r1 p1 => ⟨hl, ds, M1, F, Q0, X0 ρ, p1, r1, st.fr.next f1, q1, go.from t1 f1, gox_at gx (st.next t1 f1 r1) t1 f1⟩⟩) fun us s2 ⟨vs, H2, I2, r, hl, q⟩ => ⟨I2.kIn, ?_⟩) (star_of hs.1 _ _) (back_any hs.2)
  exact run X rfl g.calm W tk pins s2 σ H2 Q us [] vs [] I2 r .nil hl rfl (by rw [List.append_nil]; exact q)
inductive XE where
  | e (a : E)
  | callV (i : Nat) (os : List (Str × Addr × XSpec)) (es : Es)
  | callA (x : Str) (S : Spec) (e : XE) (es : Es)
  | lenC (x : Str) (S : XSpec) (es : Es)
  | ask (i : Nat) (f c' : Addr) (q : Str) (L : WL)
  | meth (C : Addr) (m : Str) (S : XSpec) (a : E) (es : Es)
  | call (x : Str) (S : XSpec) (es : Es)
  | callK (x : Str) (S : XSpec) (es : Es) (ks : List Str) (kes : Es)
mutual
inductive XS where
  | st (s : S)
  | expr (e : XE) | asg (g : Tg) (e : XE) | ret (e : XE)
  | raise0 (x : Str) (C : Addr)
  | raise1 (x : Str) (C : Addr) (f : Str) (e : E)
  | ife (t : E) (a b : XSs)
  | tryK (b : XSs) (x : Str) (C : Addr) (ck : Addr → Option Bool) (i j : Nat) (q : QE)
  | tryS (b : XSs) (x : Str) (C : Addr) (ck : Addr → Option Bool) (i : Nat) (qs : QS)
  | tryN (b : XSs) (x : Str) (C : Addr) (ck : Addr → Option Bool) (q : QE)
  | parX (i j : Nat) (e : XE) (b : E)
  | parY (g : Tg) (e : XE) (b : E)
inductive XSs where
  | nil
  | cons (s : XS) (r : XSs)
end
def XE.wp : XE → WEX
  | .e a => fun ρ M Q _ => a.wp ρ M Q
  | .callV i os es => wCallVX i os es.wp
  | .ask i f c' q L => wAsk i f c' q L
  | .lenC _ S es => wLenX (wCallX S es.wp)
  | .callA _ S b es => wCallA S b.wp es.wp
  | .call _ S es => wCallX S es.wp
  | .callK _ S es _ kes => wCallKX S es.wp kes.wp
  | .meth C m S a es => wMethX C m S a.wp es.wp
mutual
def XS.wp : XS → WSX
  | .st s => wStX s.wp
  | .expr e => wDropX e.wp
  | .asg g e => wAsgX e.wp g
  | .ret e => wRetX e.wp
  | .raise0 _ C => wRaise C none wNil
  | .raise1 _ C f e => wRaise C (some f) (wCons e.wp wNil)
  | .ife t a b => wIfX t.wpT a.wp b.wp
  | .tryK b _ _ ck i j q => wTryK ck i (wAsg q.wp (.name j)) b.wp
  | .tryS b _ _ ck i qs => wTryK ck i qs.wp b.wp
  | .tryN b _ _ ck q => wTryB ck (wRet q.wp) b.wp
  | .parX i j e b => wParX i j e.wp b.wp
  | .parY g e b => wAsgX (wTup2X e.wp b.wp) g
def XSs.wp : XSs → WSX
  | .nil => wNextX
  | .cons s r => wSeqX s.wp r.wp
end
def XE.mt (c : Sc) : XE → Expr → Bool
  | .e a, x => a.mt c x
  | .callV i _ es, x => match x with
    | .Call (.Name y _) (v0 :: ys) [] _ => nmB c i y && es.mt c (v0 :: ys)
    | _ => false
  | .ask i _ _ _ _, x => match x with
    | .Call (.Name y _) [] [] _ => nmB c i y
    | _ => false
  | .callA n _ b es, x => match x with
    | .Call (.Name y _) (a :: xs) [] _ => decide (n = y) && (glB c n && (b.mt c a && (es.mt c xs && notStar a)))
    | _ => false
  | .lenC n _ es, x => match x with
    | .Call (.Name z _) [.Call (.Name y p) xs [] p2] [] _ => decide (z = "len") && (glB c z && (decide (n = y) && (glB c n && es.mt c xs)))
    | _ => false
  | .call n _ es, x => match x with
    | .Call (.Name y _) xs [] _ => decide (n = y) && (glB c n && es.mt c xs)
    | _ => false
  | .callK n _ es ks kes, x => match x with
    | .Call (.Name y _) xs kws _ => decide (n = y) && (glB c n && (es.mt c xs && (kes.mtK c kws && decide (kwNames kws = ks.map some))))
    | _ => false
  | .meth _ m _ a es, x => match x with
    | .Call (.Attribute l n ap) ys [] p => decide (n = m) && (a.mt c l && (es.mt c ys && (plainBase l && (decide (ys.length < 30) && (ap.endLine == p.line)))))
    | _ => false
mutual
def XS.mt (c : Sc) : XS → Stmt → Bool
  | .st s, x => s.mt c x
  | .expr e, x => match x with
    | .Expr v _ => e.mt c v && !isComp v
    | _ => false
  | .asg g e, x => match x with
    | .Assign [tg] v _ => g.mt c tg && (e.mt c v && (notStar tg && (swOk c tg v && spOk c tg v)))
    | _ => false
  | .ret e, x => match x with
    | .Return (some v) _ => e.mt c v
    | _ => false
  | .raise0 n _, x => match x with
    | .Raise (some (.Call (.Name y _) [] [] _)) none _ => decide (n = y) && glB c n
    | _ => false
  | .raise1 n _ _ e, x => match x with
    | .Raise (some (.Call (.Name y _) [v] [] _)) none _ => decide (n = y) && (glB c n && (e.mt c v && notStar v))
    | _ => false
  | .ife t a b, x => match x with
    | .If y p q _ => t.mt c y && (a.mt c p && b.mt c q)
    | _ => false
  | .tryK b n _ _ i j q, x => match x with
    | .Try body [.ExceptHandler (some (.Name y _)) (some z) [.Assign [.Name u _] v _] _] [] [] _ => decide (n = y) && (glB c n && (decide (c.N[i]? = some z) && (decide (c.sc.names.lookup z = some .local) && (decide (c.N[j]? = some u) && (decide (c.sc.names.lookup u = some .local) && (q.mt c v && (!isComp v && b.mt c body)))))))
    | _ => false
  | .tryN b n _ _ q, x => match x with
    | .Try body [.ExceptHandler (some (.Name y _)) none [.Return (some v) _] _] [] [] _ => decide (n = y) && (glB c n && (q.mt c v && b.mt c body))
    | _ => false
  | .tryS b n _ _ i qs, x => match x with
    | .Try body [.ExceptHandler (some (.Name y _)) (some z) (s0 :: ss) _] [] [] _ => decide (n = y) && (glB c n && (decide (c.N[i]? = some z) && (decide (c.sc.names.lookup z = some .local) && (qs.mt c (s0 :: ss) && b.mt c body))))
    | _ => false
  | .parX i j e b, x => match x with
    | .Assign [.Tuple [.Name y py, .Name z pz] _ _] (.Tuple [a, a2] _ _) _ => decide (c.N[i]? = some y) && (decide (c.N[j]? = some z) && (decide (i ≠ j) && (decide (c.sc.names.lookup y = some .local) && (decide (c.sc.names.lookup z = some .local) && (e.mt c a && (b.mt c a2 && (notStar a && (notStar a2 && decide (spB [.Name y py, .Name z pz] [a, a2] c.sc = some (some [y, z]))))))))))
    | _ => false
  | .parY g e b, x => match x with
    | .Assign [tg] (.Tuple [a, a2] k p2) _ => g.mt c tg && (e.mt c a && (b.mt c a2 && (notStar a && (notStar a2 && (notStar tg && (swOk c tg (.Tuple [a, a2] k p2) && spOk c tg (.Tuple [a, a2] k p2)))))))
    | _ => false
def XSs.mt (c : Sc) : XSs → List Stmt → Bool
  | .nil, xs => match xs with
    | [] => true
    | _ => false
  | .cons s r, xs => match xs with
    | x :: xs => s.mt c x && r.mt c xs
    | [] => false
end
def XE.ok (k : Co) : XE → Prop
  | .e a => a.ok k
  | .callV _ os es => cvxAll k es.len os ∧ es.ok k
  | .ask _ _ _ _ _ => True
  | .lenC x S es => k.mg "len" = none ∧ CalleeX k x es.len [] S ∧ es.ok k
  | .callA x S b es => Callee k x (es.len + 1) [] S ∧ b.ok k ∧ es.ok k
  | .call x S es => CalleeX k x es.len [] S ∧ es.ok k
  | .callK x S es ks kes => CalleeX k x es.len ks S ∧ kes.len = ks.length ∧ es.ok k ∧ kes.ok k
  | .meth C m S a es => MethX k C m S ∧ a.ok k ∧ es.ok k
mutual
def XS.ok (k : Co) : XS → Prop
  | .st s => s.ok k
  | .expr e => e.ok k
  | .asg _ e => e.ok k
  | .ret e => e.ok k
  | .raise0 x C => MkE k x C none
  | .raise1 x C f e => MkE k x C (some f) ∧ e.ok k
  | .ife t a b => t.ok k ∧ a.ok k ∧ b.ok k
  | .tryK b x C ck _ _ q => k.mg x = some (.ref C) ∧ ExM k.K (.ref C) ck ∧ q.ok k ∧ b.ok k
  | .tryS b x C ck _ qs => k.mg x = some (.ref C) ∧ ExM k.K (.ref C) ck ∧ qs.ok k ∧ b.ok k
  | .tryN b x C ck q => k.mg x = some (.ref C) ∧ ExM k.K (.ref C) ck ∧ q.ok k ∧ b.ok k
  | .parX _ _ e b => e.ok k ∧ b.ok k
  | .parY _ e b => e.ok k ∧ b.ok k
def XSs.ok (k : Co) : XSs → Prop
  | .nil => True
  | .cons s r => s.ok k ∧ r.ok k
end
def XE.okX (AK : Nat → Addr → Addr → Str → WL → Prop) : XE → Prop
  | .ask i f c' q L => AK i f c' q L
  | .callA _ _ b _ => b.okX AK
  | _ => True
def XE.noAsk : XE → Bool
  | .ask _ _ _ _ _ => false
  | .callA _ _ b _ => b.noAsk
  | _ => true
mutual
def XS.okX (AK : Nat → Addr → Addr → Str → WL → Prop) : XS → Prop
  | .expr e => e.okX AK
  | .asg _ e => e.okX AK
  | .ret e => e.okX AK
  | .ife _ a b => a.okX AK ∧ b.okX AK
  | .tryK b _ _ _ _ _ _ => b.okX AK
  | .tryS b _ _ _ _ _ => b.okX AK
  | .tryN b _ _ _ _ => b.okX AK
  | .parX _ _ e _ => e.okX AK
  | .parY _ e _ => e.okX AK
  | _ => True
def XSs.okX (AK : Nat → Addr → Addr → Str → WL → Prop) : XSs → Prop
  | .nil => True
  | .cons s r => s.okX AK ∧ r.okX AK
end
mutual
def XS.noAsk : XS → Bool
  | .expr e => e.noAsk
  | .asg _ e => e.noAsk
  | .ret e => e.noAsk
  | .ife _ a b => a.noAsk && b.noAsk
  | .tryK b _ _ _ _ _ _ => b.noAsk
  | .tryS b _ _ _ _ _ => b.noAsk
  | .tryN b _ _ _ _ => b.noAsk
  | .parX _ _ e _ => e.noAsk
  | .parY _ e _ => e.noAsk
  | _ => true
def XSs.noAsk : XSs → Bool
  | .nil => true
  | .cons s r => s.noAsk && r.noAsk
end
theorem XE.okX_of {AK : Nat → Addr → Addr → Str → WL → Prop} : ∀ {e : XE}, e.noAsk = true → e.okX AK
  | .ask _ _ _ _ _, h => by cases h
  | .e _, _ => trivial
  | .callV _ _ _, _ => trivial
  | .lenC _ _ _, _ => trivial
  | .callA _ _ b _, h => XE.okX_of (e := b) h
  | .meth _ _ _ _ _, _ => trivial
  | .call _ _ _, _ => trivial
  | .callK _ _ _ _ _, _ => trivial
mutual
theorem XS.okX_of {AK : Nat → Addr → Addr → Str → WL → Prop} : ∀ {s : XS}, s.noAsk = true → s.okX AK
  | .expr e, h => by unfold XS.noAsk at h; unfold XS.okX; exact XE.okX_of h
  | .asg _ e, h => by unfold XS.noAsk at h; unfold XS.okX; exact XE.okX_of h
  | .ret e, h => by unfold XS.noAsk at h; unfold XS.okX; exact XE.okX_of h
  | .ife _ a b, h => by unfold XS.noAsk at h; unfold XS.okX; exact ⟨XSs.okX_of (band h).1, XSs.okX_of (band h).2⟩
  | .tryK b _ _ _ _ _ _, h => by unfold XS.noAsk at h; unfold XS.okX; exact XSs.okX_of h
  | .tryS b _ _ _ _ _, h => by unfold XS.noAsk at h; unfold XS.okX; exact XSs.okX_of h
  | .tryN b _ _ _ _, h => by unfold XS.noAsk at h; unfold XS.okX; exact XSs.okX_of h
  | .parX _ _ e _, h => by unfold XS.noAsk at h; unfold XS.okX; exact XE.okX_of h
  | .parY _ e _, h => by unfold XS.noAsk at h; unfold XS.okX; exact XE.okX_of h
  | .st _, _ => by unfold XS.okX; trivial
  | .raise0 _ _, _ => by unfold XS.okX; trivial
  | .raise1 _ _ _ _, _ => by unfold XS.okX; trivial
theorem XSs.okX_of {AK : Nat → Addr → Addr → Str → WL → Prop} : ∀ {s : XSs}, s.noAsk = true → s.okX AK
  | .nil, _ => by unfold XSs.okX; trivial
  | .cons s r, h => by unfold XSs.noAsk at h; unfold XSs.okX; exact ⟨XS.okX_of (band h).1, XSs.okX_of (band h).2⟩
end
theorem xcall_snd {c : Sc} {X : Cx} {W : WX} {n y : Str} {S : XSpec} {es : Es} {xs : List Expr} {p p2 : Pos} (g : Gd c X) (tk : Takes X W) (ok1 : CalleeX (co X) n es.len [] S) (ok2 : es.ok (co X)) (h1 : decide (n = y) = true) (h2 : glB c n = true) (h3 : es.mt c xs = true) : PE X (.Call (.Name y p) xs [] p2) (tDE X.K W (wCallX S es.wp)) := by
  obtain rfl := of_decide_eq_true h1
  obtain ⟨gl, gd⟩ := g.gl h2
  obtain ⟨a1, a2⟩ := es.snd _ g ok2 h3
  cases xs with
  | nil =>
    cases es with
    | nil => unfold Es.wp; exact pdx_call0 ok1 g.calm tk gl gd
    | cons e es => unfold Es.mt at h3; cases h3
  | cons v vs => exact pdx_call ok1 g.calm tk gl gd a1 a2
theorem XE.snd (e : XE) {c : Sc} {X : Cx} {W : WX} (x : Expr) (g : Gd c X) (tk : Takes X W) (kx : e.okX (AskAt X)) (ok : e.ok (co X)) (h : e.mt c x = true) : PE X x (tDE X.K W e.wp) := by
  cases e with
  | e a => exact pdx_e (a.snd x g ok h)
  | callV i os es =>
    unfold XE.mt at h
    split at h
    · obtain ⟨h1, h2⟩ := band h
      obtain ⟨ok1, ok2⟩ := ok
      obtain ⟨a1, a2⟩ := es.snd _ g ok2 h2
      exact pdx_callV g tk ok1 h1 a1 a2
    · cases h
  | ask i f c' q L =>
    unfold XE.mt at h
    split at h
    · rename_i y p p2
      obtain ⟨h1, h2⟩ := band h
      obtain ⟨h2, h3⟩ := band h2
      obtain ⟨h3, h4⟩ := band h3
      have vis : Vis X.env.scope y := by
        unfold Vis
        rw [g.sc]
        split at h2
        · rename_i e; exact .inl e
        · rename_i e; exact .inr (.inl e)
        · rename_i e; exact .inr (.inr e)
        · cases h2
      exact kx W X.pn X.xe y p p2 tk (by rw [g.n]; exact of_decide_eq_true h1) vis (bnot h3) (bnot h4)
    · cases h
  | callA n S b es =>
    unfold XE.mt at h
    split at h
    · obtain ⟨h1, g1⟩ := band h
      obtain ⟨h2, g2⟩ := band g1
      obtain ⟨h3, g3⟩ := band g2
      obtain ⟨h4, h5⟩ := band g3
      obtain rfl := of_decide_eq_true h1
      obtain ⟨gl, gd⟩ := g.gl h2
      obtain ⟨ok1, ok2, ok3⟩ := ok
      obtain ⟨a1, a2⟩ := es.snd _ g ok3 h4
      exact pdx_callA ok1 g.calm gl gd (XE.snd b _ g tk kx ok2 h3) a1 (by rw [List.all_cons, h5, a2]; rfl)
    · cases h
  | lenC n S es =>
    unfold XE.mt at h
    split at h
    · obtain ⟨h1, g1⟩ := band h
      obtain ⟨h2, g2⟩ := band g1
      obtain ⟨h3, g3⟩ := band g2
      obtain ⟨h4, h5⟩ := band g3
      obtain rfl := of_decide_eq_true h1
      obtain ⟨gl, gd⟩ := g.gl h2
      obtain ⟨ok0, ok1, ok2⟩ := ok
      exact pdx_len (xcall_snd g tk ok1 ok2 h3 h4 h5) rfl gl ok0
    · cases h
  | call n S es =>
    unfold XE.mt at h
    split at h
    · rename_i y p xs p2
      obtain ⟨h1, g1⟩ := band h
      obtain ⟨h2, h3⟩ := band g1
      obtain rfl := of_decide_eq_true h1
      obtain ⟨gl, gd⟩ := g.gl h2
      obtain ⟨ok1, ok2⟩ := ok
      obtain ⟨a1, a2⟩ := es.snd _ g ok2 h3
      cases xs with
      | nil =>
        cases es with
        | nil => unfold XE.wp Es.wp; exact pdx_call0 ok1 g.calm tk gl gd
        | cons e es => unfold Es.mt at h3; cases h3
      | cons v vs => exact pdx_call ok1 g.calm tk gl gd a1 a2
    · cases h
  | callK n S es ks kes =>
    unfold XE.mt at h
    split at h
    · rename_i y p xs kws p2
      obtain ⟨h1, g1⟩ := band h
      obtain ⟨h2, g2⟩ := band g1
      obtain ⟨h3, g3⟩ := band g2
      obtain ⟨h4, h5⟩ := band g3
      obtain rfl := of_decide_eq_true h1
      obtain ⟨gl, gd⟩ := g.gl h2
      obtain ⟨ok1, ok2, ok3, ok4⟩ := ok
      obtain ⟨a1, a2⟩ := es.snd _ g ok3 h3
      have a3 := kes.sndK _ g ok4 h4
      rw [ok2] at a3
      cases xs with
      | nil =>
        cases es with
        | nil => exact pdx_callK0 ok1 g.calm tk gl gd a3 (of_decide_eq_true h5)
        | cons e es => unfold Es.mt at h3; cases h3
      | cons v vs => exact pdx_callK ok1 g.calm tk gl gd a1 a2 a3 (of_decide_eq_true h5)
    · cases h
  | meth C m S a es =>
    unfold XE.mt at h
    split at h
    · rename_i l n ap ys p
      obtain ⟨h1, g1⟩ := band h
      obtain ⟨h2, g2⟩ := band g1
      obtain ⟨h3, g3⟩ := band g2
      obtain ⟨h4, g4⟩ := band g3
      obtain ⟨h5, h6⟩ := band g4
      obtain rfl := of_decide_eq_true h1
      obtain ⟨ok1, ok2, ok3⟩ := ok
      obtain ⟨a1, a2⟩ := es.snd _ g ok3 h3
      have ao := a.snd _ g ok2 h2
      cases ys with
      | nil =>
        cases es with
        | nil => unfold XE.wp Es.wp; exact pdx_meth0 ok1 tk ao h4 h6
        | cons e es => unfold Es.mt at h3; cases h3
      | cons v vs => exact pdx_meth ok1 tk ao (pdn_a a1) a2 h4 (of_decide_eq_true h5) h6
    · cases h
theorem sole_plain {tg v : Expr} (h : isComp v = false) (l : Nat) (env : Env) : swapsWithSole [tg] v l env = pure false := by
  show swapsWith v (some tg) l env = pure false
  exact swaps_plain h _ _ _
theorem asgB_snd {c : Sc} {X : Cx} (g : Gq c X) {j : Nat} {q : QE} {u : Str} {v : Expr} {p p2 : Pos} (ok : q.ok (co X)) (h : asgB c j q u v = true) : PS X (.Assign [.Name u p] v p2) (tDS X.K (wAsg q.wp (.name j))) := by
  unfold asgB at h
  obtain ⟨h1, g1⟩ := band h
  obtain ⟨h2, g2⟩ := band g1
  obtain ⟨h3, h4⟩ := band g2
  have eM := of_decide_eq_true h1
  rw [← g.n] at eM
  have eK := of_decide_eq_true h2
  rw [← g.sc] at eK
  exact psd_asg (QE.snd g q _ ok h3) (pgd_name (pg_name g.nd eM (.inl eK) (.inr eK))) (sole_plain (bnot h4) _ _) (swapped_name _) rfl
theorem QS.snd {c : Sc} {X : Cx} (g : Gq c X) : ∀ (qs : QS) (ss : List Stmt), qs.ok (co X) → qs.mt c ss = true → PSs X ss (tDS X.K qs.wp)
  | .ifa t j q, ss, ok, h => by
    unfold QS.mt at h
    split at h
    · obtain ⟨x, r, p, rfl, h1, h2⟩ := ifaM_inv h
      obtain ⟨u, v, p1, p2, rfl, h2⟩ := asgM_inv h2
      unfold QS.wp
      exact psd_cons (psd_if (QE.sndT g t _ ok.1 h1) (psd_cons (asgB_snd g ok.2 h2) psd_nil) psd_nil) psd_nil
    · cases h
  | .one j q, ss, ok, h => by
    unfold QS.mt at h
    split at h
    · obtain ⟨u, v, p, p2, rfl, h⟩ := asgM_inv h
      unfold QS.wp
      exact psd_cons (asgB_snd g ok h) psd_nil
    · cases h
  | .cons j q r, ss, ok, h => by
    unfold QS.mt at h
    split at h
    · obtain ⟨h1, h2⟩ := band h
      obtain ⟨u, v, p, p2, rfl, h1⟩ := asgM_inv h1
      unfold QS.wp
      exact psd_cons (asgB_snd g ok.1 h1) (QS.snd g r _ ok.2 h2)
    · cases h
structure TC (X : Cx) : Prop where
  hs : X.stack = X.env :: X.outer
  hf : X.env.frame = some X.env.locals
  hex : X.ex = []
mutual
theorem XS.snd : ∀ (s : XS) {c : Sc} {X : Cx} {W : WX} (x : Stmt), Gd c X → TC X → PassesOwn (model X.prog X.w) X.A X.env X.xe → Takes X W → s.okX (AskAt X) → s.ok (co X) → s.mt c x = true → PS X x (tDSX X.K W s.wp)
  | .st s, c, X, W, x, g, tc, hp, tk, kx, ok, h => by
    unfold XS.mt at h
    unfold XS.okX at kx; unfold XS.ok at ok
    unfold XS.wp
    exact psx_st (s.snd x g hp ok h)
  | .expr e, c, X, W, x, g, tc, hp, tk, kx, ok, h => by
    unfold XS.mt at h
    split at h
    · obtain ⟨h1, h2⟩ := band h
      unfold XS.okX at kx; unfold XS.ok at ok; unfold XS.wp; exact psx_expr (e.snd _ g tk kx ok h1) (swaps_plain (bnot h2) _ _ _)
    · cases h
  | .asg gt e, c, X, W, x, g, tc, hp, tk, kx, ok, h => by
    unfold XS.mt at h
    split at h
    · obtain ⟨h1, g1⟩ := band h
      obtain ⟨h2, g2⟩ := band g1
      obtain ⟨h3, g3⟩ := band g2
      obtain ⟨h4, h5⟩ := band g3
      unfold XS.okX at kx; unfold XS.ok at ok; unfold XS.wp
      exact psx_asg (e.snd _ g tk kx ok h2) (gt.snd g _ h1) (swOk_ok g h4 _) (spOk_ok g h5) (asg_one h3 _)
    · cases h
  | .ret e, c, X, W, x, g, tc, hp, tk, kx, ok, h => by
    unfold XS.mt at h
    split at h
    · unfold XS.okX at kx; unfold XS.ok at ok; unfold XS.wp; exact psx_ret (e.snd _ g tk kx ok h)
    · cases h
  | .raise0 n C, c, X, W, x, g, tc, hp, tk, kx, ok, h => by
    unfold XS.mt at h
    split at h
    · obtain ⟨h1, h2⟩ := band h
      obtain rfl := of_decide_eq_true h1
      obtain ⟨gl, gd⟩ := g.gl h2
      unfold XS.okX at kx; unfold XS.ok at ok; unfold XS.wp; exact psx_raise0 g.calm tk ok gl gd
    · cases h
  | .raise1 n C f e, c, X, W, x, g, tc, hp, tk, kx, ok, h => by
    unfold XS.mt at h
    split at h
    · obtain ⟨h1, g1⟩ := band h
      obtain ⟨h2, g2⟩ := band g1
      obtain ⟨h3, h4⟩ := band g2
      obtain rfl := of_decide_eq_true h1
      obtain ⟨gl, gd⟩ := g.gl h2
      unfold XS.okX at kx; unfold XS.ok at ok; unfold XS.wp; exact psx_raise1 g.calm tk ok.1 gl gd (e.snd _ g ok.2 h3) h4
    · cases h
  | .ife t a b, c, X, W, x, g, tc, hp, tk, kx, ok, h => by
    unfold XS.mt at h
    split at h
    · obtain ⟨h1, g1⟩ := band h
      obtain ⟨h2, h3⟩ := band g1
      unfold XS.okX at kx; unfold XS.ok at ok; unfold XS.wp
      exact psx_if (t.sndT _ g ok.1 h1) (XSs.snd a _ g tc hp tk kx.1 ok.2.1 h2) (XSs.snd b _ g tc hp tk kx.2 ok.2.2 h3)
    · cases h
  | .tryK b n C ck i j q, c, X, W, x, g, tc, hp, tk, kx, ok, h => by
    unfold XS.mt at h
    split at h
    · obtain ⟨h1, g1⟩ := band h
      obtain ⟨h2, g2⟩ := band g1
      obtain ⟨h4, g4⟩ := band g2
      obtain ⟨h5, g5⟩ := band g4
      obtain ⟨h6, g6⟩ := band g5
      obtain ⟨h7, g7⟩ := band g6
      obtain ⟨h8, g8⟩ := band g7
      obtain ⟨h9, h11⟩ := band g8
      obtain rfl := of_decide_eq_true h1
      obtain ⟨gl, gd⟩ := g.gl h2
      unfold XS.okX at kx; unfold XS.ok at ok
      obtain ⟨ok1, ok2, ok3, ok4⟩ := ok
      have eN := of_decide_eq_true h4
      rw [← g.n] at eN
      have eL := of_decide_eq_true h5
      rw [← g.sc] at eL
      have eM := of_decide_eq_true h6
      rw [← g.n] at eM
      have eK := of_decide_eq_true h7
      rw [← g.sc] at eK
      unfold XS.wp
      refine psx_try tc.hs tc.hf tc.hex g.nd eN eL ⟨gl, gd, .inl ok1⟩ ok2 tk (fun W' pn xe tk' hp' => XSs.snd b (X := X.tr pn xe) _ ⟨g.n, g.nd, g.sc, g.fn, g.calm, g.ru, g.cq⟩ ⟨tc.hs, tc.hf, tc.hex⟩ hp' tk' kx ok4 h11) (fun a => pss_one ?_)
      exact psd_asg (X := X.suite a X.pn) (QE.snd (X := X.suite a X.pn) ⟨g.n, g.nd, g.sc, g.ru⟩ q _ (QE.ok_of (k := co X) (k' := co (X.suite a X.pn)) rfl rfl ok3) h8) (pgd_name (pg_name (X := X.suite a X.pn) g.nd eM (.inl eK) (.inr eK))) (sole_plain (bnot h9) _ _) (swapped_name _) rfl
    · cases h
  | .tryS b n C ck i qs, c, X, W, x, g, tc, hp, tk, kx, ok, h => by
    unfold XS.mt at h
    split at h
    · obtain ⟨h1, g1⟩ := band h
      obtain ⟨h2, g2⟩ := band g1
      obtain ⟨h4, g4⟩ := band g2
      obtain ⟨h5, g5⟩ := band g4
      obtain ⟨h8, h11⟩ := band g5
      obtain rfl := of_decide_eq_true h1
      obtain ⟨gl, gd⟩ := g.gl h2
      unfold XS.okX at kx; unfold XS.ok at ok
      obtain ⟨ok1, ok2, ok3, ok4⟩ := ok
      have eN := of_decide_eq_true h4
      rw [← g.n] at eN
      have eL := of_decide_eq_true h5
      rw [← g.sc] at eL
      unfold XS.wp
      refine psx_try tc.hs tc.hf tc.hex g.nd eN eL ⟨gl, gd, .inl ok1⟩ ok2 tk (fun W' pn xe tk' hp' => XSs.snd b (X := X.tr pn xe) _ ⟨g.n, g.nd, g.sc, g.fn, g.calm, g.ru, g.cq⟩ ⟨tc.hs, tc.hf, tc.hex⟩ hp' tk' kx ok4 h11) (fun a => ?_)
      exact QS.snd (X := X.suite a X.pn) ⟨g.n, g.nd, g.sc, g.ru⟩ qs _ (QS.ok_of (k := co X) (k' := co (X.suite a X.pn)) rfl rfl ok3) h8
    · cases h
  | .tryN b n C ck q, c, X, W, x, g, tc, hp, tk, kx, ok, h => by
    unfold XS.mt at h
    split at h
    · obtain ⟨h1, g1⟩ := band h
      obtain ⟨h2, g2⟩ := band g1
      obtain ⟨h8, h11⟩ := band g2
      obtain rfl := of_decide_eq_true h1
      obtain ⟨gl, gd⟩ := g.gl h2
      unfold XS.okX at kx; unfold XS.ok at ok
      obtain ⟨ok1, ok2, ok3, ok4⟩ := ok
      unfold XS.wp
      exact psx_bare tc.hs tc.hf tc.hex ⟨gl, gd, .inl ok1⟩ ok2 tk (fun W' pn xe tk' hp' => XSs.snd b (X := X.tr pn xe) _ ⟨g.n, g.nd, g.sc, g.fn, g.calm, g.ru, g.cq⟩ ⟨tc.hs, tc.hf, tc.hex⟩ hp' tk' kx ok4 h11) (fun a => pss_one (psd_ret (X := X.suite a X.pn) (QE.snd (X := X.suite a X.pn) ⟨g.n, g.nd, g.sc, g.ru⟩ q _ (QE.ok_of (k := co X) (k' := co (X.suite a X.pn)) rfl rfl ok3) h8)))
    · cases h
  | .parX i j e b, c, X, W, x, g, tc, hp, tk, kx, ok, h => by
    unfold XS.mt at h
    split at h
    · obtain ⟨h1, g1⟩ := band h
      obtain ⟨h2, g2⟩ := band g1
      obtain ⟨h3, g3⟩ := band g2
      obtain ⟨h4, g4⟩ := band g3
      obtain ⟨h5, g5⟩ := band g4
      obtain ⟨h6, g6⟩ := band g5
      obtain ⟨h7, g7⟩ := band g6
      obtain ⟨h8, g8⟩ := band g7
      obtain ⟨h9, h10⟩ := band g8
      unfold XS.okX at kx; unfold XS.ok at ok; unfold XS.wp
      exact psx_par (fun t ht => ps_par g.calm g.nd (by rw [g.n]; exact of_decide_eq_true h1) (by rw [g.n]; exact of_decide_eq_true h2) (of_decide_eq_true h3) (by rw [g.sc]; exact of_decide_eq_true h4) (by rw [g.sc]; exact of_decide_eq_true h5) ht (sp_ok (by rw [g.sc]; exact of_decide_eq_true h10))) (e.snd _ g tk kx ok.1 h6) (b.snd _ g ok.2 h7) h8 h9
    · cases h
  | .parY gt e b, c, X, W, x, g, tc, hp, tk, kx, ok, h => by
    unfold XS.mt at h
    split at h
    · obtain ⟨h1, g1⟩ := band h
      obtain ⟨h2, g2⟩ := band g1
      obtain ⟨h3, g3⟩ := band g2
      obtain ⟨h4, g4⟩ := band g3
      obtain ⟨h5, g5⟩ := band g4
      obtain ⟨h6, g6⟩ := band g5
      obtain ⟨h7, h8⟩ := band g6
      unfold XS.okX at kx; unfold XS.ok at ok; unfold XS.wp
      exact psx_asg (pdx_tup2 (e.snd _ g tk kx ok.1 h2) (b.snd _ g ok.2 h3) h4 h5) (gt.snd g _ h1) (swOk_ok g h7 _) (spOk_ok g h8) (asg_one h6 _)
    · cases h
theorem XSs.snd : ∀ (s : XSs) {c : Sc} {X : Cx} {W : WX} (x : List Stmt), Gd c X → TC X → PassesOwn (model X.prog X.w) X.A X.env X.xe → Takes X W → s.okX (AskAt X) → s.ok (co X) → s.mt c x = true → PSs X x (tDSX X.K W s.wp)
  | .nil, c, X, W, x, g, tc, hp, tk, kx, ok, h => by
    unfold XSs.mt at h
    split at h
    · unfold XSs.wp; exact psx_nil
    · cases h
  | .cons s r, c, X, W, x, g, tc, hp, tk, kx, ok, h => by
    unfold XSs.mt at h
    split at h
    · obtain ⟨h1, h2⟩ := band h
      unfold XSs.okX at kx; unfold XSs.ok at ok; unfold XSs.wp
      exact psx_cons (XS.snd s _ g tc hp tk kx.1 ok.1 h1) (XSs.snd r _ g tc hp tk kx.2 ok.2 h2)
    · cases h
end
section
variable {P : Program} {w : World} {K : PySem.W.Frag} {mg : Str → Option Value} {base : Heap} {x qual : Str} {params : Arguments} {body : List Stmt} {scope : Scope} {dvs : List V} {kws : List (Str × V)} {f : Addr} {fd : FuncData} {N ps : List Str} {k : Nat}
theorem fn_okX {S : XSpec} (F : FunD K x qual params body scope dvs kws f fd) (sc : FnScope N ps scope) (b : XSs) (hl : ∀ ds M Q E, S ds M Q E → ds.length = ps.length) (hm : b.mt ⟨N, scope, fun _ => true⟩ body = true) (hok : ∀ A, Room k A → b.ok ⟨P, w, K, mg, base, A⟩)
    (hwp : ∀ ds M Q E, szs ds → szM M → S ds M Q E → b.wp (fun _ C d M' => E C d M') (bodyEnds Q) (startD N ds) M) (hna : b.noAsk = true := by rfl) : FnOk P w K mg base (L2.CX P w) (k + 1) f fd ps (spDX K S) := by
  refine F.ok sc (fun vs H Q E h => rDX.len hl h) (fun cdv A outer s H vs Q E hr h => ?_)
  have tk : Takes (cxOf (L2.CX P w) P w K mg base N qual scope f cdv A outer s H E) (fun cls d _ H => E cls d H) := takes_of rfl rfl rfl rfl
  refine ⟨_, pss_sz (b.snd (c := ⟨N, scope, fun _ => true⟩) _ ⟨rfl, sc.nd, rfl, rfl, rfl, ?_, deeper_cq⟩ ⟨rfl, rfl, rfl⟩ (passes_of rfl) tk (XSs.okX_of hna) (hok _ hr) hm), fun z => ?_⟩
  · have := hr.un
    show (A.deeper _).units + 65 < cLine
    omega
  · obtain ⟨ds, M, Fr, Q0, E0, r, m, fr, h, g, gx⟩ := h
    refine ⟨startD N ds, M, Fr, _, _, ⟨start_rep r, m, fr⟩, hwp ds M Q0 E0 (Reps.sz z r) (RepM.sz z m) h, ?_, fun ρ' C d M' σ' H' q t f s => gx C d M' H' q t f s.rm⟩
    exact ⟨fun ρ' M' σ' H' q t f s => g .non M' .non H' q t f s.rm rfl, fun d M' v H' q t f r p => g d M' v H' q t f r p, fun _ _ _ _ q _ _ _ => q.elim, fun _ _ _ _ q _ _ _ => q.elim⟩
def noX : DX := fun _ _ _ _ => False
theorem takes_none {X : Cx} : Takes X (fun _ _ _ _ => False) := fun u s' ⟨_, _, _, _, _, _, _, _, _, _, _, _, _, _, _, _, w⟩ => w.elim
theorem fn_GC {S : Spec} (F : FunD K x qual params body scope dvs kws f fd) (sc : FnScope N ps scope) (b : XSs) (hl : ∀ ds M Q, S ds M Q → ds.length = ps.length) (hm : b.mt ⟨N, scope, fun _ => true⟩ body = true) (hok : ∀ A, Room k A → A.guards = some [] → b.ok ⟨P, w, K, mg, base, A⟩)
    (hwp : ∀ ds M Q, szs ds → szM M → S ds M Q → b.wp noX (bodyEnds Q) (startD N ds) M) (hna : b.noAsk = true := by rfl) : FnG P w K mg base (k + 1) f fd ps S := by
  obtain ⟨oc, od, dV, kV, doc, pm, an, cdv, ct, osl, rfl, lk, hcd, _, _⟩ := F.ex
  refine ⟨hl, fun A outer s H args us vs Q E hr hg e0 hb r hsp => ?_⟩
  have hlen := rDL.len hl hsp
  have kIn : K.In s.heap := e0.mod.kin.keeps fun b o e => (e0.bs b o e).1
  have kinds : ∀ y ∈ ps.zip us, scope.names.lookup y.1 = some .local ∨ (scope.names.lookup y.1 = some .cell ∧ ((cellsFrom (s.heap.objs.size + 1) scope.names []).lookup y.1).isSome = true) := fun ⟨n, v⟩ hy =>
    (sc.par n (List.of_mem_zip hy).1).imp id fun q => ⟨q, PySem.W.cellsFrom_some _ _ _ (.inl q)⟩
  refine codeAny_call_function hr.depth (kIn _ _ lk) rfl sc.co sc.gen rfl (PySem.W.codeRec_of kIn hcd) (hb _ _ _ _ ?_)
  refine wpAny_newFunctionEnv_cells sc.kind kinds fun env he s1 x => ?_
  subst he
  refine ⟨(e0.mod.nolimit.keeps fun b o e => (e0.bs b o e).1).keeps x.toInCall.keep, codeAny_func ?_⟩
  have hr' := hr.deeper (envOfC qual scope s.heap.objs.size f cdv)
  have I : Inv (cxOf CX0 P w K mg base N qual scope f cdv A outer s H E) [] (L2.start N vs) H s1 := inv_start sc hr.hd e0 hlen r x
  have hb' := PSs.nox (pss_sz (b.snd (c := ⟨N, scope, fun _ => true⟩) (X := (cxOf CX0 P w K mg base N qual scope f cdv A outer s H E).nox) _ ⟨rfl, sc.nd, rfl, rfl, rfl, by have := hr'.un; show (A.deeper _).units + 65 < cLine; omega, deeper_cq⟩ ⟨rfl, rfl, rfl⟩ PassesOwn.never takes_none (XSs.okX_of hna) (hok _ hr' hg) hm))
  refine wpAny_mono (hb'.run [] s1 (L2.start N vs) H { nx := fun _ H' => Q .non H', rt := Q } I ?_) (fun fl s' hs => ?_) fun e s' hs => hs
  · intro z
    obtain ⟨ds, M, Fr, Q0, r, m, fr, h, g⟩ := hsp
    refine ⟨startD N ds, M, Fr, _, _, ⟨start_rep r, m, fr⟩, hwp ds M Q0 (Reps.sz z r) (RepM.sz z m) h, ?_, fun ρ' C d M' σ' H' q t f s => q⟩
    exact ⟨fun ρ' M' σ' H' q t f s => g .non M' .non H' q t f s.rm rfl, fun d M' v H' q t f r p => g d M' v H' q t f r p, fun _ _ _ _ q _ _ _ => q.elim, fun _ _ _ _ q _ _ _ => q.elim⟩
  · cases fl with
    | ret u =>
      obtain ⟨v, σ', H', J, rv, q⟩ := hs
      exact ⟨v, H', J.os, J.bare, J.base, J.hok, rv, q⟩
    | next =>
      obtain ⟨σ', H', J, q⟩ := hs
      exact ⟨V.non, H', J.os, J.bare, J.base, J.hok, rfl, q⟩
    | brk => obtain ⟨_, _, _, q⟩ := hs; exact q.elim
    | cont => obtain ⟨_, _, _, q⟩ := hs; exact q.elim
def PrX (P : Program) (w : World) (K : PySem.W.Frag) (mg : Str → Option Value) (base : Heap) (k : Nat) (x : Str) (n : Nat) (ks : List Str) (S : XSpec) : Prop := ∀ A, Room k A → CalleeX ⟨P, w, K, mg, base, A⟩ x n ks S
def PrE (P : Program) (w : World) (K : PySem.W.Frag) (mg : Str → Option Value) (base : Heap) (k : Nat) (x : Str) (C : Addr) (fl : Option Str) : Prop := ∀ A, Room k A → MkE ⟨P, w, K, mg, base, A⟩ x C fl
def PrMX (P : Program) (w : World) (K : PySem.W.Frag) (mg : Str → Option Value) (base : Heap) (k : Nat) (C : Addr) (m : Str) (S : XSpec) : Prop := ∀ A, Room k A → MethX ⟨P, w, K, mg, base, A⟩ C m S
theorem PrX.fn {S : XSpec} (F : FnOk P w K mg base (L2.CX P w) k f fd ps (spDX K S)) (hm : mg x = some (.ref f)) (hk : PySem.W.keepIn K (.ref f) = true) (hb : Binds K fd ps []) (n : Nat) : PrX P w K mg base k x n [] S := fun A hr => CalleeX.fn (c := ⟨P, w, K, mg, base, A⟩) F hr hm hk hb
end
end DL
namespace DL
open PySem PySem.Spec PyProof.Rows L2
def exck (ys ns : List Addr) : Addr → Option Bool := fun C => if C ∈ ys then some true else if C ∈ ns then some false else none
theorem oexB_ok {K : PySem.W.Frag} {C : Addr} (h : oexB K C = true) : OexC K C := by
  obtain ⟨h1, g1⟩ := band h
  obtain ⟨h2, g2⟩ := band g1
  obtain ⟨h3, g3⟩ := band g2
  obtain ⟨h4, h5⟩ := band g3
  refine ⟨?_, He.eqO_ok h2, of_decide_eq_true h3, of_decide_eq_true h4, h5⟩
  unfold oexC at h1
  split at h1
  · rename_i dd cd sl ho
    split at h1
    · rename_i C' bm k0 k1 k2 k3 n k5 hm hs
      simp only [Bool.and_eq_true, beq_iff_eq, Bool.not_eq_true'] at h1
      obtain ⟨⟨⟨⟨rfl, rfl⟩, hdel⟩, hdict⟩, hve⟩ := h1
      obtain ⟨nm, bs, mro, ns, qn, hd, sn, sub, ab, col, del⟩ := cd
      dsimp only at hm hdel hdict hve
      subst hm hdel hdict
      have hsl : sl = #[k0, k1, k2, k3, some (.builtin "ValueError.__new__"), k5] := by
        obtain ⟨l⟩ := sl
        simp only at hs
        rw [hs]
      subst hsl
      exact ⟨nm, qn, ns, bs, bm, sn, sub, ab, col, dd, k0, k1, k2, k3, k5, ho, hve⟩
    · cases h1
  · cases h1
theorem exccB_ok {K : PySem.W.Frag} {C : Addr} (h : exccB K C = true) : ExcC K C := by
  obtain ⟨h1, g1⟩ := band h
  obtain ⟨h2, g2⟩ := band g1
  obtain ⟨h3, g3⟩ := band g2
  obtain ⟨h4, g4⟩ := band g3
  obtain ⟨h5, g5⟩ := band g4
  obtain ⟨h6, g6⟩ := band g5
  obtain ⟨h7, h8⟩ := band g6
  exact ⟨He.eqO_ok h1, He.eqO_ok h2, of_decide_eq_true h3, h4, He.eqO_ok h5, He.eqO_ok h6, of_decide_eq_true h7, of_decide_eq_true h8⟩
theorem xfdB_ok {K : PySem.W.Frag} {C : Addr} {f : Str} (h : xfdB K C f = true) : Xf K C f := by
  obtain ⟨h1, h2⟩ := band h
  exact ⟨xfB_ok h1, He.eqO_ok h2⟩
theorem basiB_ok {K : PySem.W.Frag} {mg : Str → Option Value} {x : Str} {C : Addr} (hm : mg x = some (.ref C)) (h : basiB K C = true) : BaseI K mg x := by
  obtain ⟨h1, g1⟩ := band h
  obtain ⟨h2, h3⟩ := band g1
  refine ⟨C, hm, h1, He.eqO_ok h2, ?_⟩
  split at h3
  · rename_i s e
    obtain rfl := beq_iff_eq.mp h3
    exact e
  · cases h3
theorem exsB_ok {K : PySem.W.Frag} {tv : Value} {ys ns : List Addr} (h : exsB K tv ys ns = true) : ExS K tv ys ns := by
  obtain ⟨h1, g1⟩ := band h
  obtain ⟨h2, h3⟩ := band g1
  refine ⟨fun C hC => ?_, fun C hC => ?_, fun k hk => of_decide_eq_true (List.all_eq_true.mp h3 k hk)⟩
  · obtain ⟨a, b⟩ := band (List.all_eq_true.mp h1 C hC)
    exact ⟨exccB_ok a, of_decide_eq_true b⟩
  · obtain ⟨a, b⟩ := band (List.all_eq_true.mp h2 C hC)
    exact ⟨exccB_ok a, of_decide_eq_true b⟩
theorem exmB_ok {K : PySem.W.Frag} {D : Addr} {ys ns : List Addr} (h : exmB K D ys ns = true) : ExM K (.ref D) (exck ys ns) := by
  obtain ⟨h1, h2⟩ := band h
  refine ⟨fun C b e => ?_⟩
  unfold exck at e
  by_cases a : C ∈ ys
  · rw [if_pos a] at e
    cases e
    exact of_decide_eq_true (List.all_eq_true.mp h1 C a)
  · rw [if_neg a] at e
    by_cases a2 : C ∈ ns
    · rw [if_pos a2] at e
      cases e
      exact of_decide_eq_true (List.all_eq_true.mp h2 C a2)
    · rw [if_neg a2] at e; cases e
section
variable {P : Program} {w : World} {K : PySem.W.Frag} {mg : Str → Option Value} {base : Heap} {x : Str} {C : Addr} {f : Addr} {fd : FuncData} {ps : List Str} {k : Nat} {fl : Option Str}
theorem PrE.of (F : FnOk P w K mg base CX0 k f fd ps (spI K fl)) (hm : mg x = some (.ref C)) (T : OexC K C) (M : Meth K C "__init__" f) (hb : Binds K fd ps []) (no : ∀ g, fl = some g → PySem.W.findIn K (.ref C) g = some none) : PrE P w K mg base (k + 1) x C fl := fun A hr => ⟨hm, T, no, k, f, fd, ps, M.at_, beq_iff_eq.mp M.fn, F, hr, hb⟩
theorem PrMX.of {m : Str} {S : XSpec} (F : FnOk P w K mg base (L2.CX P w) k f fd ps (spDX K S)) (hb : Binds K fd ps []) (hM : Meth K C m f) (hC : Cls K C) : PrMX P w K mg base k C m S := fun A hr => ⟨hC, k, f, fd, ps, F, hr, hb, hM⟩
end
end DL
namespace DL
open PySem PySem.Spec PyProof.Rows L2
theorem obsS_eq {n : Nat} {fa : List He.Fa} {fn : List He.DefD} {ex : PySem.W.Frag → Bool} {g : Addr → Option Obj} {s : Shared} (h : ∀ a, g a = s.heap.get? a) : obsS n fa fn ex g = (hookS n fa fn ex).obs s := by
  have e : g = s.heap.get? := funext h
  rw [e] <;> rfl
end DL
namespace DL
open PySem L2
mutual
theorem Dat.keep {M M' : Mp} (k : Keep M M') : ∀ {d : D} {p : PyData}, Dat M d p → Dat M' d p
  | _, _, .non => .non
  | _, _, .bl b => .bl b
  | _, _, .int i => .int i
  | _, _, .str x => .str x
  | _, _, .tup h => .tup (Dats.keep k h)
  | _, _, .lst e h => .lst (k _ _ e) (Dats.keep k h)
theorem Dats.keep {M M' : Mp} (k : Keep M M') : ∀ {ds : List D} {ps : List PyData}, Dats M ds ps → Dats M' ds ps
  | _, _, .nil => .nil
  | _, _, .cons h t => .cons (Dat.keep k h) (Dats.keep k t)
end
theorem textFrom_le {n : Nat} : ∀ (ts : List Str) (k : Nat) (acc : Str), (∀ t ∈ ts, t.length ≤ n) → (textFrom k acc ts).length ≤ acc.length + ts.length * (n + 2)
  | [], k, acc, _ => by show acc.length ≤ _; omega
  | t :: r, k, acc, h => by
    have ih := textFrom_le r (k + 1) (acc ++ (if k > 0 then ", " else "" : String) ++ t) fun x hx => h x (List.mem_cons_of_mem _ hx)
    have ht := h t List.mem_cons_self
    have e : textFrom k acc (t :: r) = textFrom (k + 1) (acc ++ (if k > 0 then ", " else "" : String) ++ t) r := rfl
    rw [e]
    rw [strLen_append, strLen_append] at ih
    have e2 : ((if k > 0 then ", " else "" : String) : Str).length ≤ 2 := by
      split
      · exact Nat.le_refl 2
      · exact (by decide : (0 : Nat) ≤ 2)
    rw [List.length_cons, Nat.add_mul]
    omega
theorem listText_le {n : Nat} {ts : List Str} (h : ∀ t ∈ ts, t.length ≤ n) : (listText ts).length ≤ ts.length * (n + 2) + 3 := by
  unfold listText
  rw [strLen_append]
  have h1 := textFrom_le ts 0 "[" h
  have e1 : (("[" : String) : Str).length = 1 := rfl
  have e2 : (("]" : String) : Str).length = 1 := rfl
  omega
def Shy (M : Mp) (d : D) (n l : Nat) : Prop := ∃ p, Dat M d p ∧ p.showable = true ∧ p.depth ≤ n ∧ p.shown.length ≤ l
theorem Shy.keep {M M' : Mp} {d : D} {n l : Nat} (h : Shy M d n l) (k : Keep M M') : Shy M' d n l := let ⟨p, a, b⟩ := h; ⟨p, a.keep k, b⟩
theorem shys {M : Mp} {n l : Nat} : ∀ {ds : List D}, (∀ d ∈ ds, Shy M d n l) → ∃ ps, Dats M ds ps ∧ PyData.showableAll ps = true ∧ PyData.depthAll ps ≤ n ∧ ps.length = ds.length ∧ ∀ t ∈ PyData.shownAll ps, t.length ≤ l
  | [], _ => ⟨[], .nil, rfl, by simp [PyData.depthAll], rfl, fun t h => by simp [PyData.shownAll] at h⟩
  | d :: ds, h => by
    obtain ⟨p, a1, a2, a3, a4⟩ := h d List.mem_cons_self
    obtain ⟨ps, b1, b2, b3, b4, b5⟩ := shys fun x hx => h x (List.mem_cons_of_mem _ hx)
    refine ⟨p :: ps, .cons a1 b1, by simp only [PyData.showableAll, a2, b2, Bool.and_self], by simp only [PyData.depthAll]; omega, by rw [List.length_cons, List.length_cons, b4], fun t ht => ?_⟩
    simp only [PyData.shownAll, List.mem_cons] at ht
    rcases ht with rfl | ht
    · exact a4
    · exact b5 t ht
theorem shown_lens : ∀ ps : List PyData, (PyData.shownAll ps).length = ps.length
  | [] => by simp [PyData.shownAll]
  | p :: ps => by simp only [PyData.shownAll, List.length_cons, shown_lens ps]
theorem Shy.tup {M : Mp} {n l : Nat} {ds : List D} (h : ∀ d ∈ ds, Shy M d n l) : Shy M (.tup ds) (n + 1) (ds.length * (l + 2) + 3) := by
  obtain ⟨ps, b1, b2, b3, b4, b5⟩ := shys h
  refine ⟨.tuple ps, .tup b1, by simpa only [PyData.showable] using b2, by simp only [PyData.depth]; omega, ?_⟩
  simp only [PyData.shown]
  have := tupleText_le b5
  rw [shown_lens, b4] at this
  exact this
theorem Shy.lst {M : Mp} {n l : Nat} {a : Addr} {ds : List D} (e : M a = some (.lst ds)) (h : ∀ d ∈ ds, Shy M d n l) : Shy M (.ref a) (n + 1) (ds.length * (l + 2) + 3) := by
  obtain ⟨ps, b1, b2, b3, b4, b5⟩ := shys h
  refine ⟨.list ps, .lst e b1, by simpa only [PyData.showable] using b2, by simp only [PyData.depth]; omega, ?_⟩
  simp only [PyData.shown]
  have := listText_le b5
  rw [shown_lens, b4] at this
  exact this
structure Thing (M : Mp) (d : D) : Prop where
  kn : kns d M
  rp : ∃ t : Str, ∀ (M' : Mp) (Q : DQ), Keep M M' → Q (.str t) M' → reprS [d] M' Q
theorem Thing.keep {M M' : Mp} {d : D} (h : Thing M d) (k : Keep M M') : Thing M' d := ⟨⟨h.kn.1.keep k, fun xs e x hx => (h.kn.2 xs e x hx).keep k⟩, let ⟨t, ht⟩ := h.rp; ⟨t, fun M2 Q k2 q => ht M2 Q (k.trans k2) q⟩⟩
theorem Shy.thing {M : Mp} {d : D} {n l : Nat} (h : Shy M d n l) (ho : objD d = true) (hn : n ≤ 60) (hl : l ≤ sizeLine) (hk : kns d M) : Thing M d := by
  obtain ⟨p, a, b, c, e⟩ := h
  exact ⟨hk, p.shown, fun M' Q k q => .inr (.inr (.inr (.inr (.inl ⟨d, p, rfl, ho, a.keep k, b, Nat.le_trans c hn, Nat.le_trans e hl, q⟩))))⟩
structure Elem (M : Mp) (d : D) : Prop where
  kn : kn d M
  sh : Shy M d 3 1000
theorem Elem.keep {M M' : Mp} {d : D} (h : Elem M d) (k : Keep M M') : Elem M' d := ⟨h.kn.keep k, h.sh.keep k⟩
theorem thing_non {M : Mp} : Thing M .non := ⟨⟨⟨_, rfl⟩, fun xs e => by cases e⟩, "None", fun M' Q _ q => .inr (.inr (.inl ⟨rfl, q⟩))⟩
mutual
theorem DatK.keep {M M' : Mp} (k : Keep M M') : ∀ {d : D} {p : PyData}, DatK M d p → DatK M' d p
  | _, _, .non => .non
  | _, _, .bl b => .bl b
  | _, _, .int i => .int i
  | _, _, .str x => .str x
  | _, _, .tup h => .tup (DatsK.keep k h)
  | _, _, .dk e => .dk (k _ _ e)
  | _, _, .lst e h => .lst (k _ _ e) (DatsK.keep k h)
theorem DatsK.keep {M M' : Mp} (k : Keep M M') : ∀ {ds : List D} {ps : List PyData}, DatsK M ds ps → DatsK M' ds ps
  | _, _, .nil => .nil
  | _, _, .cons h t => .cons (DatK.keep k h) (DatsK.keep k t)
end
def ShyK (M : Mp) (d : D) (n l : Nat) : Prop := ∃ p, DatK M d p ∧ p.showable = true ∧ p.depth ≤ n ∧ p.shown.length ≤ l
theorem ShyK.keep {M M' : Mp} {d : D} {n l : Nat} (h : ShyK M d n l) (k : Keep M M') : ShyK M' d n l := let ⟨p, a, b⟩ := h; ⟨p, a.keep k, b⟩
theorem shysK {M : Mp} {n l : Nat} : ∀ {ds : List D}, (∀ d ∈ ds, ShyK M d n l) → ∃ ps, DatsK M ds ps ∧ PyData.showableAll ps = true ∧ PyData.depthAll ps ≤ n ∧ ps.length = ds.length ∧ ∀ t ∈ PyData.shownAll ps, t.length ≤ l
  | [], _ => ⟨[], .nil, rfl, by simp [PyData.depthAll], rfl, fun t h => by simp [PyData.shownAll] at h⟩
  | d :: ds, h => by
    obtain ⟨p, a1, a2, a3, a4⟩ := h d List.mem_cons_self
    obtain ⟨ps, b1, b2, b3, b4, b5⟩ := shysK fun x hx => h x (List.mem_cons_of_mem _ hx)
    refine ⟨p :: ps, .cons a1 b1, by simp only [PyData.showableAll, a2, b2, Bool.and_self], by simp only [PyData.depthAll]; omega, by rw [List.length_cons, List.length_cons, b4], fun t ht => ?_⟩
    simp only [PyData.shownAll, List.mem_cons] at ht
    rcases ht with rfl | ht
    · exact a4
    · exact b5 t ht
theorem ShyK.tup {M : Mp} {n l : Nat} {ds : List D} (h : ∀ d ∈ ds, ShyK M d n l) : ShyK M (.tup ds) (n + 1) (ds.length * (l + 2) + 3) := by
  obtain ⟨ps, b1, b2, b3, b4, b5⟩ := shysK h
  refine ⟨.tuple ps, .tup b1, by simpa only [PyData.showable] using b2, by simp only [PyData.depth]; omega, ?_⟩
  simp only [PyData.shown]
  have := tupleText_le b5
  rw [shown_lens, b4] at this
  exact this
structure Odd (M : Mp) (d : D) : Prop where
  kn : kns d M
  sh : Shy M d 4 2000 ∨ ShyK M d 4 2000
theorem Odd.keep {M M' : Mp} {d : D} (h : Odd M d) (k : Keep M M') : Odd M' d := ⟨⟨h.kn.1.keep k, fun xs e x hx => (h.kn.2 xs e x hx).keep k⟩, h.sh.imp (fun a => a.keep k) fun a => a.keep k⟩
theorem thing_of {M : Mp} {d : D} {n l : Nat} (hk : kns d M) (sh : Shy M d n l ∨ ShyK M d n l) (hn : n ≤ 60) (hl : l ≤ sizeLine) : Thing M d := by
  cases d with
  | non => exact thing_non
  | bl b => exact ⟨hk, boolT b, fun M' Q k q => .inr (.inl ⟨b, rfl, q⟩)⟩
  | int i =>
    have hi : i.natAbs.log2 < 1920 := by
      rcases sh with ⟨p, a, b, _⟩ | ⟨p, a, b, _⟩
      · cases a
        simpa only [PyData.showable, decide_eq_true_eq] using b
      · cases a
        simpa only [PyData.showable, decide_eq_true_eq] using b
    exact ⟨hk, _, fun M' Q k q => .inr (.inr (.inr (.inl ⟨i, rfl, hi, q⟩)))⟩
  | str z =>
    have hz : (reprText z).length ≤ sizeLine := by
      rcases sh with ⟨p, a, _, _, b⟩ | ⟨p, a, _, _, b⟩
      · cases a
        simp only [PyData.shown] at b
        omega
      · cases a
        simp only [PyData.shown] at b
        omega
    exact ⟨hk, _, fun M' Q k q => .inr (.inr (.inr (.inr (.inr (.inl ⟨z, rfl, hz, q⟩)))))⟩
  | ty t => exact (kn_ty hk.1).elim
  | tup ds =>
    rcases sh with h | ⟨p, a, b, c, e⟩
    · exact h.thing rfl hn hl hk
    · exact ⟨hk, p.shown, fun M' Q k q => .inr (.inr (.inr (.inr (.inr (.inr (.inr ⟨.tup ds, p, rfl, rfl, a.keep k, b, Nat.le_trans c hn, Nat.le_trans e hl, q⟩))))))⟩
  | ref r =>
    rcases sh with h | ⟨p, a, b, c, e⟩
    · exact h.thing rfl hn hl hk
    · exact ⟨hk, p.shown, fun M' Q k q => .inr (.inr (.inr (.inr (.inr (.inr (.inr ⟨.ref r, p, rfl, rfl, a.keep k, b, Nat.le_trans c hn, Nat.le_trans e hl, q⟩))))))⟩
end DL
namespace DL
open PySem L2
theorem shown_sum {ds : List D} : (py (.tup ds)).shown.length ≤ piled (ds.map fun d => (py d).shown) + 3 := by
  have e : (py (.tup ds)).shown = tupleText (ds.map fun d => (py d).shown) := by simp only [py, PyData.shown, shownAll_map]
  rw [e]
  generalize (ds.map fun d => (py d).shown) = ts
  unfold tupleText
  rw [strLen_append, strLen_append]
  have e1 : (("(" : String) : Str).length = 1 := rfl
  have e2 : ((if ts.length == 1 then ",)" else ")" : String) : Str).length ≤ 2 := by
    split
    · exact Nat.le_refl 2
    · exact (by decide : (1 : Nat) ≤ 2)
  have e3 : (Str.join ", " ts).length ≤ piled ts := by
    cases ts with
    | nil => exact Nat.le_trans (Nat.le_of_eq (show (Str.join ", " []).length = 0 from rfl)) (Nat.zero_le _)
    | cons t ts =>
      have := join_length_add (t :: ts) (by simp)
      omega
  rw [e1]
  omega
theorem shown_three {a b c : D} : (py (.tup [a, b, c])).shown.length ≤ (py a).shown.length + (py b).shown.length + (py c).shown.length + 9 := by
  have := shown_sum (ds := [a, b, c])
  simp only [List.map_cons, List.map_nil, piled, List.foldr_cons, List.foldr_nil, List.sum_cons, List.sum_nil] at this
  omega
def Told (d : D) (h s : Nat) : Prop := plain d = true ∧ (py d).showable = true ∧ (py d).depth ≤ h ∧ (py d).shown.length ≤ s
theorem Told.tup {ds : List D} {h s : Nat} (a : ∀ d ∈ ds, Told d h s) : Told (.tup ds) (h + 1) (ds.length * (s + 2) + 3) :=
  ⟨by unfold plain; exact plains_of fun d hd => (a d hd).1, showable_tup fun d hd => (a d hd).2.1, dep_le fun d hd => (a d hd).2.2.1, shown_tup fun d hd => (a d hd).2.2.2⟩
theorem Told.mono {d : D} {h s h' s' : Nat} (t : Told d h s) (a : h ≤ h') (b : s ≤ s') : Told d h' s' := ⟨t.1, t.2.1, Nat.le_trans t.2.2.1 a, Nat.le_trans t.2.2.2 b⟩
theorem Told.three {a b c : D} {h s1 s2 s3 : Nat} (x : Told a h s1) (y : Told b h s2) (z : Told c h s3) : Told (.tup [a, b, c]) (h + 1) (s1 + s2 + s3 + 9) := by
  have t := Told.tup (ds := [a, b, c]) (h := h) (s := max s1 (max s2 s3)) fun d hd => by
    simp only [List.mem_cons, List.not_mem_nil, or_false] at hd
    rcases hd with rfl | rfl | rfl
    · exact x.mono (Nat.le_refl _) (by omega)
    · exact y.mono (Nat.le_refl _) (by omega)
    · exact z.mono (Nat.le_refl _) (by omega)
  refine ⟨t.1, t.2.1, t.2.2.1, Nat.le_trans shown_three ?_⟩
  have := x.2.2.2
  have := y.2.2.2
  have := z.2.2.2
  omega
theorem told_name {x : Str} (h : nameS x = true) : Told (.str x) 0 62 := ⟨rfl, showable_str _, by simp [py, PyData.depth], shown_name h⟩
theorem told_int {i : Int} (h : i.natAbs < 1000) : Told (.int i) 0 4 := ⟨rfl, showable_int (by omega), by simp [py, PyData.depth], shown_int (k := 3) (by decide) (by omega)⟩
theorem told_repr {ds : List D} {h s : Nat} {M : Mp} {Q : DQ} (t : Told (.tup ds) h s) (hh : h ≤ 60) (hs : s ≤ sizeLine) (q : Q (.str (py (.tup ds)).shown) M) : reprS [.tup ds] M Q :=
  .inl ⟨ds, rfl, by have := t.1; unfold plain at this; exact this, t.2.1, Nat.le_trans t.2.2.1 hh, Nat.le_trans t.2.2.2 hs, q⟩
theorem Told.upto {ds : List D} {h s N t : Nat} (a : ∀ d ∈ ds, Told d h s) (hN : ds.length ≤ N) (ht : N * (s + 2) + 3 ≤ t) : Told (.tup ds) (h + 1) t :=
  (Told.tup a).mono (Nat.le_refl _) (Nat.le_trans (Nat.add_le_add_right (Nat.mul_le_mul_right _ hN) 3) ht)
end DL
namespace DL
open PySem L2
theorem Thg.kns {M : Mp} {d : D} (h : Thg M d) : kns d M := ⟨h.kn, fun xs e x hx => by
  subst e
  cases h with
  | tup h _ => exact (h x hx).kn⟩
structure Sh (M : Mp) (d : D) (n l : Nat) : Prop where
  t : Thg M d
  s : Shy M d n l
theorem Sh.keep {M M' : Mp} {d : D} {n l : Nat} (h : Sh M d n l) (k : Keep M M') : Sh M' d n l := ⟨h.t.keep k, h.s.keep k⟩
theorem Sh.tup {M : Mp} {n l : Nat} {ds : List D} (h : ∀ d ∈ ds, Sh M d n l) (hz : ds.length ≤ 100000) : Sh M (.tup ds) (n + 1) (ds.length * (l + 2) + 3) := ⟨.tup (fun d hd => (h d hd).t) hz, Shy.tup fun d hd => (h d hd).s⟩
theorem Sh.lst {M : Mp} {n l : Nat} {a : Addr} {ds : List D} (e : M a = some (.lst ds)) (h : ∀ d ∈ ds, Sh M d n l) : Sh M (.ref a) (n + 1) (ds.length * (l + 2) + 3) := ⟨.lst e, Shy.lst e fun d hd => (h d hd).s⟩
theorem cut_sub {α : Type} (xs : List α) (lo hi : Option Int) : (cutL xs lo hi).Sublist xs := by
  unfold cutL
  exact (List.take_sublist _ _).trans (List.drop_sublist _ _)
structure TT (M : Mp) (d : D) : Prop where
  t : Thg M d
  rp : ∃ t : Str, ∀ (M' : Mp) (Q : DQ), Keep M M' → Q (.str t) M' → reprS [d] M' Q
theorem TT.keep {M M' : Mp} {d : D} (h : TT M d) (k : Keep M M') : TT M' d := ⟨h.t.keep k, let ⟨t, ht⟩ := h.rp; ⟨t, fun M2 Q k2 q => ht M2 Q (k.trans k2) q⟩⟩
structure ShE (M : Mp) (d : D) (n l : Nat) : Prop where
  t : Thg M d
  s : Shy M d n l ∨ ShyK M d n l
theorem ShE.keep {M M' : Mp} {d : D} {n l : Nat} (h : ShE M d n l) (k : Keep M M') : ShE M' d n l := ⟨h.t.keep k, h.s.imp (fun a => a.keep k) fun a => a.keep k⟩
inductive Pu : D → Prop
  | int {i : Int} : i.natAbs < 100 → Pu (.int i)
  | str {z : Str} : nameS z = true → Pu (.str z)
  | tup {ds : List D} : (∀ d ∈ ds, Pu d) → ds.length ≤ 1000 → Pu (.tup ds)
theorem Pu.thg {M : Mp} : ∀ {d : D}, Pu d → Thg M d := fun {d} h => by
  induction h with
  | int h => exact .int _
  | str h => exact .str (lay_name h) (nameS_len h)
  | tup h hz ih => exact .tup ih (by omega)
structure PuT (d : D) (n l : Nat) : Prop where
  p : Pu d
  t : Told d n l
end DL
namespace DL
open PySem PySem.Spec PyProof.Rows L2
def tnMQ (I a b : Addr) (i : Nat) (h : Heap) : Prop := (IsZip h (I + 4) (I + 2) (I + 3) .none ∧ IsTupOf2 h (I + 2) (.ref I) (.ref (I + 1))) ∧ (∃ p q, IsTupOf2 h (I + 3) p q) ∧ h.IsListIter I a i ∧ h.IsListIter (I + 1) b i
def ZStQ (I a b : Addr) (i : Nat) (h : Heap) : Prop := (i = 0 ∧ tnMQ I a b 0 h) ∨ (0 < i ∧ ∃ (T : Addr) (f : Bool) (oT : Obj), (oT.cls = .type "tuple" ∧ T ∉ fpM I) ∧ h.get? T = some oT ∧ (IsZipHeld h (I + 4) (I + 2) (I + 3) T f ∧ IsTupOf2 h (I + 2) (.ref I) (.ref (I + 1))) ∧ h.IsListIter I a i ∧ h.IsListIter (I + 1) b i)
theorem ZStQ.stay {I a b : Addr} {i : Nat} {h h' : Heap} (z : ZStQ I a b i h) (k : ∀ c o, (c ∈ fpM I ∨ o.cls = .type "tuple") → h.get? c = some o → h'.get? c = some o) : ZStQ I a b i h' := by
  rcases z with ⟨e, ⟨t1, t2⟩, ⟨p, q, t3⟩, t4, t5⟩ | ⟨e, T, f, oT, ⟨o1, o2⟩, t0, ⟨t1, t2⟩, t4, t5⟩
  · exact .inl ⟨e, ⟨k _ _ (.inl (by simp)) t1, k _ _ (.inl (by simp)) t2⟩, ⟨p, q, k _ _ (.inl (by simp)) t3⟩, t4.at fun o z => k _ _ (.inl (by simp)) z, t5.at fun o z => k _ _ (.inl (by simp)) z⟩
  · exact .inr ⟨e, T, f, oT, ⟨o1, o2⟩, k _ _ (.inr o1) t0, ⟨k _ _ (.inl (by simp)) t1, k _ _ (.inl (by simp)) t2⟩, t4.at fun o z => k _ _ (.inl (by simp)) z, t5.at fun o z => k _ _ (.inl (by simp)) z⟩
section
variable {prog : Program} {w : World} {A : Around} {E : Value → Shared → Prop} {s : Shared} {I a b i : Nat} {us vs : Array Value}
end
section
variable {X : Cx} {a b : Expr} {wa wb : WE}
end
end DL
namespace DL
open PySem PySem.Spec PyProof.Rows L2
section
variable {c : Sc} {X : Cx}
end
def jsAll (k : Co) : List (Bool × E) → Prop
  | [] => True
  | p :: ps => p.2.ok k ∧ jsAll k ps
def CalleeA (k : Co) (x : Str) (a : Addr) (n : Nat) (S : Spec) : Prop := Callee k x n [] S ∧ k.mg x = some (.ref a)
def cvAll (k : Co) (n : Nat) : List (Str × Addr × Spec) → Prop
  | [] => True
  | o :: os => CalleeA k o.1 o.2.1 n o.2.2 ∧ cvAll k n os
def KTup (K : PySem.W.Frag) (a : Addr) (vs : List V) : Prop := ∃ its : List Value, its.length ≤ sizeLine ∧ Vals vs its ∧ K.lookup a = some { cls := .type "tuple", data := .seq its.toArray }
def ktAll (K : PySem.W.Frag) : List (Addr × List Str) → Prop
  | [] => True
  | o :: os => KTup K o.1 (o.2.map V.str) ∧ ktAll K os
section
variable {X : Cx}
end
end DL
namespace DL
open PySem PySem.Spec PyProof.Rows L2
def addB : D → D → Mp → DQ → Prop := fun x y M Q => addD x y M Q ∨ ∃ b j, x = .bl b ∧ y = .int j ∧ Q (.int (b1 b + j)) M
def subB : D → D → Mp → DQ → Prop := fun x y M Q => ∃ j, y = .int j ∧ ((∃ i, x = .int i ∧ Q (.int (i - j)) M) ∨ ∃ b, x = .bl b ∧ Q (.int (b1 b - j)) M)
def strBS : Spec := fun ds M Q => strS ds M Q ∨ ∃ b, ds = [.bl b] ∧ Q (.str (boolT b)) M
section
variable {X : Cx}
theorem od_addB : OpR X (binaryOp .Add) (rD X.K addB) := fun pins s σ H x y v u Q I rx ry h => by
  obtain ⟨dx, dy, M, F, Q0, r1, r2, m, fr, h, g⟩ := h
  rcases h with h | ⟨b, j, rfl, rfl, h⟩
  · exact od_add pins s σ H x y v u Q I rx ry ⟨dx, dy, M, F, Q0, r1, r2, m, fr, h, g⟩
  · cases r1; cases r2
    obtain ⟨t, rfl⟩ := ry
    cases rx
    exact PySem.IntBool.add_bool_int ⟨.int _, H, I.tok _, ⟨_, rfl⟩, g _ M _ H h (.refl _) fr.frm m rfl⟩
theorem od_subB : OpR X (binaryOp .Sub) (rD X.K subB) := fun pins s σ H x y v u Q I rx ry h => by
  obtain ⟨dx, dy, M, F, Q0, r1, r2, m, fr, ⟨j, rfl, h⟩, g⟩ := h
  rcases h with ⟨i, rfl, h⟩ | ⟨b, rfl, h⟩
  · cases r1; cases r2
    exact op_sub pins s σ H _ _ v u Q I rx ry ⟨i, j, rfl, rfl, g _ M _ H h (.refl _) fr.frm m rfl⟩
  · cases r1; cases r2
    obtain ⟨t, rfl⟩ := ry
    cases rx
    exact PySem.IntBool.sub_bool_int ⟨.int _, H, I.tok _, ⟨_, rfl⟩, g _ M _ H h (.refl _) fr.frm m rfl⟩
theorem cd_strB : CallR X (.type "str") (rDL X.K strBS) := fun pins s σ H xs us Q I rv hh => by
  obtain ⟨ds, M, F', Q0, r1, m, fr, h, g⟩ := hh
  rcases h with h | ⟨b, rfl, q⟩
  · exact cd_str pins s σ H xs us Q I rv ⟨ds, M, F', Q0, r1, m, fr, h, g⟩
  · obtain ⟨v, rfl, rr⟩ := r1.one
    obtain rfl : v = V.bl b := rr
    obtain ⟨u, rfl, r1⟩ := vals1 rv
    cases r1
    exact PySem.P.str_of_bool ⟨.str _, H, I.tok _, ⟨_, rfl⟩, g _ M _ H q (.refl _) fr.frm m rfl⟩
end
def addBMt (a b : E) : Sc → Expr → Bool := fun c x => match x with
  | .BinOp l .Add r _ => a.mt c l && b.mt c r
  | _ => false
def E.addB (a b : E) : E := .hole (w2 DL.addB a.wp b.wp) (addBMt a b)
theorem E.addB_ok {k : Co} {a b : E} (ha : a.ok k) (hb : b.ok k) : (E.addB a b).ok k := by
  unfold E.addB
  unfold E.ok
  rintro c X x g rfl h
  unfold addBMt at h
  split at h
  · obtain ⟨h1, h2⟩ := band h
    exact ⟨pd_bin od_addB (a.snd _ g ha h1) (b.snd _ g hb h2), rfl⟩
  · cases h
def subBMt (a b : E) : Sc → Expr → Bool := fun c x => match x with
  | .BinOp l .Sub r _ => a.mt c l && b.mt c r
  | _ => false
def E.subB (a b : E) : E := .hole (w2 DL.subB a.wp b.wp) (subBMt a b)
theorem E.subB_ok {k : Co} {a b : E} (ha : a.ok k) (hb : b.ok k) : (E.subB a b).ok k := by
  unfold E.subB
  unfold E.ok
  rintro c X x g rfl h
  unfold subBMt at h
  split at h
  · obtain ⟨h1, h2⟩ := band h
    exact ⟨pd_bin od_subB (a.snd _ g ha h1) (b.snd _ g hb h2), rfl⟩
  · cases h
def strBMt (a : E) : Sc → Expr → Bool := fun c x => match x with
  | .Call (.Name n _) [l] [] _ => decide (n = "str") && (glB c n && (a.mt c l && notStar l))
  | _ => false
def E.strB (a : E) : E := .hole (wCall strBS (wCons a.wp wNil)) (strBMt a)
theorem E.strB_ok {k : Co} {a : E} (h1 : k.mg "str" = none) (ha : a.ok k) : (E.strB a).ok k := by
  unfold E.strB
  unfold E.ok
  rintro c X x g rfl h
  unfold strBMt at h
  split at h
  · obtain ⟨e1, k1⟩ := band h
    obtain ⟨e2, k2⟩ := band k1
    obtain ⟨e3, e4⟩ := band k2
    obtain rfl := of_decide_eq_true e1
    exact ⟨callT_pe cd_strB PyProof.Rows.boot_str (by decide) (by decide) (g.gl e2).1 h1 (pda_cons (a.snd _ g ha e3) pda_nil (star_of e4 _ _)) (by simp [e4]), rfl⟩
  · cases h
end DL
namespace DL
open PySem L2
def asc (z : Str) : Prop := z.cps.toList.all (fun c => decide (c < 128)) = true
mutual
inductive Bv (M : Mp) (b : Nat) : D → Nat → Nat → Prop
  | non {n s : Nat} : 1 ≤ s → Bv M b .non n s
  | bl (x : Bool) {n s : Nat} : 1 ≤ s → Bv M b (.bl x) n s
  | int {i : Int} {n s : Nat} : i.natAbs < 10 ^ b → 1 ≤ s → Bv M b (.int i) n s
  | str {z : Str} {n s : Nat} : asc z → z.length ≤ b → 1 ≤ s → Bv M b (.str z) n s
  | tup {ds : List D} {n s t : Nat} : Bvs M b ds n s → s + 1 ≤ t → Bv M b (.tup ds) (n + 1) t
  | lst {a : Addr} {ds : List D} {n s t : Nat} : M a = some (.lst ds) → Bvs M b ds n s → s + 1 ≤ t → Bv M b (.ref a) (n + 1) t
  | dict {a : Addr} {n s : Nat} : M a = some (.dK []) → 1 ≤ s → Bv M b (.ref a) (n + 1) s
inductive Bvs (M : Mp) (b : Nat) : List D → Nat → Nat → Prop
  | nil {n s : Nat} : Bvs M b [] n s
  | cons {d : D} {ds : List D} {n s1 s2 s : Nat} : Bv M b d n s1 → Bvs M b ds n s2 → s1 + s2 ≤ s → Bvs M b (d :: ds) n s
end
mutual
theorem Bv.keep {M M' : Mp} {b : Nat} (k : Keep M M') : ∀ {d : D} {n s : Nat}, Bv M b d n s → Bv M' b d n s
  | _, _, _, .non h => .non h
  | _, _, _, .bl x h => .bl x h
  | _, _, _, .int a h => .int a h
  | _, _, _, .str a c h => .str a c h
  | _, _, _, .tup a h => .tup (Bvs.keep k a) h
  | _, _, _, .lst e a h => .lst (k _ _ e) (Bvs.keep k a) h
  | _, _, _, .dict e h => .dict (k _ _ e) h
theorem Bvs.keep {M M' : Mp} {b : Nat} (k : Keep M M') : ∀ {ds : List D} {n s : Nat}, Bvs M b ds n s → Bvs M' b ds n s
  | _, _, _, .nil => .nil
  | _, _, _, .cons a c h => .cons (Bv.keep k a) (Bvs.keep k c) h
end
theorem pow_le {b b' : Nat} (h : b ≤ b') : 10 ^ b ≤ 10 ^ b' := Nat.pow_le_pow_right (by decide) h
mutual
theorem Bv.mono {M : Mp} {b b' : Nat} (hb : b ≤ b') : ∀ {d : D} {n s : Nat}, Bv M b d n s → ∀ {n' s' : Nat}, n ≤ n' → s ≤ s' → Bv M b' d n' s'
  | _, _, _, .non h, _, _, _, hs => .non (Nat.le_trans h hs)
  | _, _, _, .bl x h, _, _, _, hs => .bl x (Nat.le_trans h hs)
  | _, _, _, .int a h, _, _, _, hs => .int (Nat.lt_of_lt_of_le a (pow_le hb)) (Nat.le_trans h hs)
  | _, _, _, .str a c h, _, _, _, hs => .str a (Nat.le_trans c hb) (Nat.le_trans h hs)
  | _, _, _, .tup (n := n) a h, n', s', hn, hs => by
    obtain ⟨m, rfl⟩ : ∃ m, n' = m + 1 := ⟨n' - 1, by omega⟩
    exact .tup (Bvs.mono hb a (by omega) (Nat.le_refl _)) (by omega)
  | _, _, _, .lst (n := n) e a h, n', s', hn, hs => by
    obtain ⟨m, rfl⟩ : ∃ m, n' = m + 1 := ⟨n' - 1, by omega⟩
    exact .lst e (Bvs.mono hb a (by omega) (Nat.le_refl _)) (by omega)
  | _, _, _, .dict (n := n) e h, n', s', hn, hs => by
    obtain ⟨m, rfl⟩ : ∃ m, n' = m + 1 := ⟨n' - 1, by omega⟩
    exact .dict e (by omega)
theorem Bvs.mono {M : Mp} {b b' : Nat} (hb : b ≤ b') : ∀ {ds : List D} {n s : Nat}, Bvs M b ds n s → ∀ {n' s' : Nat}, n ≤ n' → s ≤ s' → Bvs M b' ds n' s'
  | _, _, _, .nil, _, _, _, _ => .nil
  | _, _, _, .cons a c h, _, _, hn, hs => .cons (Bv.mono hb a hn (Nat.le_refl _)) (Bvs.mono hb c hn (Nat.le_refl _)) (Nat.le_trans h hs)
end
theorem Bvs.append {M : Mp} {b : Nat} : ∀ {xs ys : List D} {n s t : Nat}, Bvs M b xs n s → Bvs M b ys n t → Bvs M b (xs ++ ys) n (s + t)
  | _, _, _, _, _, .nil, h => h.mono (Nat.le_refl _) (Nat.le_refl _) (by omega)
  | _, _, _, _, _, .cons a c e, h => .cons a (Bvs.append c h) (by omega)
theorem Bvs.sub {M : Mp} {b : Nat} {n : Nat} {xs ys : List D} (h : xs.Sublist ys) : ∀ {s : Nat}, Bvs M b ys n s → Bvs M b xs n s := by
  induction h with
  | slnil => intro s h; exact h
  | cons x _ ih => intro s h; cases h with | cons a c e => exact (ih c).mono (Nat.le_refl _) (Nat.le_refl _) (by omega)
  | cons_cons x _ ih => intro s h; cases h with | cons a c e => exact .cons a (ih c) e
theorem Bvs.one {M : Mp} {b : Nat} {d : D} {n s : Nat} (h : Bv M b d n s) : Bvs M b [d] n s := .cons h (.nil (s := 0)) (Nat.le_refl _)
theorem Bvs.reverse {M : Mp} {b : Nat} : ∀ {xs : List D} {n s : Nat}, Bvs M b xs n s → Bvs M b xs.reverse n s
  | _, _, _, .nil => .nil
  | _, _, _, .cons a c e => by
    rw [List.reverse_cons]
    exact ((Bvs.reverse c).append (.one a)).mono (Nat.le_refl _) (Nat.le_refl _) (by omega)
theorem Bv.pos {M : Mp} {b : Nat} {d : D} {n s : Nat} (h : Bv M b d n s) : 1 ≤ s := by cases h <;> omega
theorem Bvs.len {M : Mp} {b : Nat} : ∀ {xs : List D} {n s : Nat}, Bvs M b xs n s → xs.length ≤ s
  | _, _, _, .nil => Nat.zero_le _
  | _, _, _, .cons a c e => by
    have := Bvs.len c
    have := a.pos
    rw [List.length_cons]
    omega
theorem Bvs.of {M : Mp} {b : Nat} {n s : Nat} : ∀ {xs : List D}, (∀ x ∈ xs, Bv M b x n s) → Bvs M b xs n (xs.length * s)
  | [], _ => .nil
  | x :: xs, h => .cons (h x (by simp)) (Bvs.of fun y hy => h y (by simp [hy])) (by rw [List.length_cons, Nat.succ_mul]; omega)
theorem Bvs.at {M : Mp} {b : Nat} : ∀ {xs : List D} {n s : Nat}, Bvs M b xs n s → ∀ {a : Nat} {y : D}, xs[a]? = some y → ∃ s1 s2 s3, Bvs M b (xs.take a) n s1 ∧ Bv M b y n s2 ∧ Bvs M b (xs.drop (a + 1)) n s3 ∧ s1 + s2 + s3 ≤ s
  | _, _, _, .nil, a, y, h => by simp at h
  | _, _, s, .cons (s1 := u) (s2 := v) p c e, 0, y, h => by
    simp at h
    subst h
    exact ⟨0, u, v, .nil, p, c, by omega⟩
  | _, _, s, .cons (s1 := u) (s2 := v) p c e, a + 1, y, h => by
    rw [List.getElem?_cons_succ] at h
    obtain ⟨s1, s2, s3, h1, h2, h3, h4⟩ := Bvs.at c h
    exact ⟨u + s1, s2, s3, by rw [List.take_succ_cons]; exact .cons p h1 (Nat.le_refl _), h2, by rw [List.drop_succ_cons]; exact h3, by omega⟩
theorem asc_lay {z : Str} (h : asc z) : lay (.str z) := by
  unfold lay py PyData.canLay0 PyData.strOk
  have h2 := List.all_eq_true.mp h
  rw [← Array.all_toList, List.all_eq_true]
  intro c hc
  have := of_decide_eq_true (h2 c hc)
  simp
  omega
mutual
theorem Bv.thg {M : Mp} {b : Nat} (hb : b ≤ 500) : ∀ {d : D} {n s : Nat}, Bv M b d n s → s ≤ 100000 → Thg M d
  | _, _, _, .non _, _ => .non
  | _, _, _, .bl x _, _ => .bl x
  | _, _, _, .int _ _, _ => .int _
  | _, _, _, .str a c _, _ => .str (asc_lay a) (by rw [sizeLine_eq]; omega)
  | _, _, _, .tup a h, hs => .tup (Bvs.thg hb a (by omega)) (by have := a.len; omega)
  | _, _, _, .lst e _ _, _ => .lst e
  | _, _, _, .dict e _, _ => .dict e
theorem Bvs.thg {M : Mp} {b : Nat} (hb : b ≤ 500) : ∀ {ds : List D} {n s : Nat}, Bvs M b ds n s → s ≤ 100000 → ∀ d ∈ ds, Thg M d
  | _, _, _, .nil, _, d, h => by cases h
  | _, _, _, .cons a c e, hs, d, h => by
    rcases List.mem_cons.mp h with e | h
    · rw [e]; exact Bv.thg hb a (by omega)
    · exact Bvs.thg hb c (by omega) d h
end
theorem tuple_sum (ts : List Str) : (tupleText ts).length ≤ piled ts + 3 := by
  unfold tupleText
  rw [strLen_append, strLen_append]
  have e1 : (("(" : String) : Str).length = 1 := rfl
  have e2 : ((if ts.length == 1 then ",)" else ")" : String) : Str).length ≤ 2 := by
    split
    · exact Nat.le_refl 2
    · exact (by decide : (1 : Nat) ≤ 2)
  have e3 : (Str.join ", " ts).length ≤ piled ts := by
    cases ts with
    | nil => exact Nat.le_trans (Nat.le_of_eq (show (Str.join ", " []).length = 0 from rfl)) (Nat.zero_le _)
    | cons t ts =>
      have := join_length_add (t :: ts) (by simp)
      omega
  rw [e1]
  omega
theorem textFrom_sum : ∀ (ts : List Str) (k : Nat) (acc : Str), (textFrom k acc ts).length ≤ acc.length + piled ts
  | [], k, acc => by show acc.length ≤ _; omega
  | t :: r, k, acc => by
    have ih := textFrom_sum r (k + 1) (acc ++ (if k > 0 then ", " else "" : String) ++ t)
    have e : textFrom k acc (t :: r) = textFrom (k + 1) (acc ++ (if k > 0 then ", " else "" : String) ++ t) r := rfl
    rw [e]
    rw [strLen_append, strLen_append] at ih
    have e2 : ((if k > 0 then ", " else "" : String) : Str).length ≤ 2 := by
      split
      · exact Nat.le_refl 2
      · exact (by decide : (0 : Nat) ≤ 2)
    rw [piled_cons]
    omega
theorem list_sum (ts : List Str) : (listText ts).length ≤ piled ts + 3 := by
  unfold listText
  rw [strLen_append]
  have h1 := textFrom_sum ts 0 "["
  have e1 : (("[" : String) : Str).length = 1 := rfl
  have e2 : (("]" : String) : Str).length = 1 := rfl
  omega
theorem show_pow {i : Int} {b : Nat} (h : i.natAbs < 10 ^ b) (hb : b ≤ 480) : (PyData.int i).showable = true := by
  simp only [PyData.showable, decide_eq_true_eq]
  rcases Nat.eq_zero_or_pos i.natAbs with e | e
  · rw [e]; decide
  · have h1 : 10 ^ b ≤ 16 ^ b := Nat.pow_le_pow_left (by decide) b
    have h2 : 16 ^ b = 2 ^ (4 * b) := by rw [show 16 = 2 ^ 4 from rfl, ← Nat.pow_mul]
    have h3 : i.natAbs.log2 < 4 * b := (Nat.log2_lt (by omega)).mpr (by omega)
    omega
mutual
theorem Bv.told {M : Mp} {b : Nat} (hb : b ≤ 400) : ∀ {d : D} {n s : Nat}, Bv M b d n s → ∃ p, DatK M d p ∧ p.showable = true ∧ p.depth ≤ n ∧ p.shown.length + 2 ≤ s * (10 * b + 30)
  | _, _, s, .non h => ⟨.none, .non, rfl, by simp [PyData.depth], by
    have : (PyData.none).shown.length = 4 := by decide +kernel
    rw [this]
    exact Nat.le_trans (by omega) (Nat.mul_le_mul_right _ h)⟩
  | _, _, s, .bl x h => ⟨.bool x, .bl x, rfl, by simp [PyData.depth], by
    have : (PyData.bool x).shown.length ≤ 5 := by cases x <;> decide +kernel
    exact Nat.le_trans (by omega) (Nat.mul_le_mul_right _ h)⟩
  | _, _, s, .int (i := i) a h => ⟨.int i, .int i, show_pow a (by omega), by simp [PyData.depth], by
    have h1 := shown_int (i := i) (k := b + 1) (Nat.succ_pos b) (Nat.lt_of_lt_of_le a (pow_le (Nat.le_succ b)))
    have e : (py (.int i)).shown = (PyData.int i).shown := by simp only [py]
    rw [e] at h1
    exact Nat.le_trans (by omega) (Nat.mul_le_mul_right _ h)⟩
  | _, _, s, .str (z := z) a c h => ⟨.str z, .str z, by simp only [PyData.showable], by simp [PyData.depth], by
    simp only [PyData.shown]
    have := StrLaws.reprText_len z fun c hc => Nat.lt_of_lt_of_le (of_decide_eq_true (List.all_eq_true.mp a c hc)) (by decide)
    exact Nat.le_trans (by omega) (Nat.mul_le_mul_right _ h)⟩
  | _, _, t, .tup a h => by
    obtain ⟨ps, p1, p2, p3, p4⟩ := Bvs.told hb a
    refine ⟨.tuple ps, .tup p1, by simpa only [PyData.showable] using p2, by simp only [PyData.depth]; omega, ?_⟩
    simp only [PyData.shown]
    have := tuple_sum (PyData.shownAll ps)
    have := Nat.mul_le_mul_right (10 * b + 30) h
    rw [Nat.succ_mul] at this
    omega
  | _, _, t, .lst e a h => by
    obtain ⟨ps, p1, p2, p3, p4⟩ := Bvs.told hb a
    refine ⟨.list ps, .lst e p1, by simpa only [PyData.showable] using p2, by simp only [PyData.depth]; omega, ?_⟩
    simp only [PyData.shown]
    have := list_sum (PyData.shownAll ps)
    have := Nat.mul_le_mul_right (10 * b + 30) h
    rw [Nat.succ_mul] at this
    omega
  | _, _, s, .dict e h => ⟨.dict [], .dk e, by decide +kernel, Nat.le_trans (show (PyData.dict []).depth ≤ 1 by decide +kernel) (by omega), by
    have : (PyData.dict []).shown.length = 2 := by decide +kernel
    rw [this]
    exact Nat.le_trans (by omega) (Nat.mul_le_mul_right _ h)⟩
theorem Bvs.told {M : Mp} {b : Nat} (hb : b ≤ 400) : ∀ {ds : List D} {n s : Nat}, Bvs M b ds n s → ∃ ps, DatsK M ds ps ∧ PyData.showableAll ps = true ∧ PyData.depthAll ps ≤ n ∧ piled (PyData.shownAll ps) ≤ s * (10 * b + 30)
  | _, _, _, .nil => ⟨[], .nil, rfl, by simp [PyData.depthAll], by simp [PyData.shownAll, piled]⟩
  | _, _, _, .cons a c e => by
    obtain ⟨p, a1, a2, a3, a4⟩ := Bv.told hb a
    obtain ⟨ps, b1, b2, b3, b4⟩ := Bvs.told hb c
    refine ⟨p :: ps, .cons a1 b1, by simp only [PyData.showableAll, a2, b2, Bool.and_self], by simp only [PyData.depthAll]; omega, ?_⟩
    simp only [PyData.shownAll]
    rw [piled_cons]
    have := Nat.mul_le_mul_right (10 * b + 30) e
    rw [Nat.add_mul] at this
    omega
end
def RP (M : Mp) (d : D) : Prop := ∃ t : Str, ∀ (M' : Mp) (Q : DQ), Keep M M' → Q (.str t) M' → reprS [d] M' Q
theorem RP.keep {M M' : Mp} {d : D} (h : RP M d) (k : Keep M M') : RP M' d := let ⟨t, ht⟩ := h; ⟨t, fun M2 Q k2 q => ht M2 Q (k.trans k2) q⟩
theorem Bv.rp {M : Mp} {b : Nat} (hb : b ≤ 400) {d : D} {n s : Nat} (h : Bv M b d n s) (hn : n ≤ 60) (hs : s ≤ 3000) : RP M d := by
  obtain ⟨p, h1, h2, h3, h4⟩ := h.told hb
  have h5 : s * (10 * b + 30) ≤ 3000 * 4030 := Nat.mul_le_mul hs (by omega)
  exact (thing_of (n := n) (l := 12090000) (h.thg (by omega) (by omega)).kns (.inr ⟨p, h1, h2, h3, by omega⟩) hn (by rw [sizeLine_eq]; decide)).rp
end DL
namespace DL
open PySem L2
theorem cutS_len {z : Str} {lo hi : Option Int} : (cutS z lo hi).length ≤ z.length := by
  unfold cutS
  show ((z.cps.toList.drop _).take _).toArray.size ≤ z.cps.size
  have := ((List.take_sublist (HT.sIx z.length z.length hi - HT.sIx z.length 0 lo) _).trans (List.drop_sublist (HT.sIx z.length 0 lo) z.cps.toList)).length_le
  simpa using this
theorem cutS_ascii {z : Str} {lo hi : Option Int} (h : z.cps.toList.all (fun c => decide (c < 128)) = true) : (cutS z lo hi).cps.toList.all (fun c => decide (c < 128)) = true := by
  unfold cutS
  show ((z.cps.toList.drop _).take _).toArray.toList.all _ = true
  refine List.all_eq_true.mpr fun c hc => List.all_eq_true.mp h c ?_
  exact ((List.take_sublist _ _).trans (List.drop_sublist _ _)).subset (by simpa using hc)
theorem app_ascii {a b : Str} (ha : a.cps.toList.all (fun c => decide (c < 128)) = true) (hb : b.cps.toList.all (fun c => decide (c < 128)) = true) : (a ++ b).cps.toList.all (fun c => decide (c < 128)) = true := by
  have e : (a ++ b) = SX.S (a.cps.toList ++ b.cps.toList) := by
    conv => lhs; rw [show a = SX.S a.cps.toList from str_ext rfl, show b = SX.S b.cps.toList from str_ext rfl]
    exact SX.S_cat _ _
  rw [e]
  show (a.cps.toList ++ b.cps.toList).all _ = true
  rw [List.all_append, ha, hb]
  rfl
def odd0 (p1 p2 : Addr) : List D := [.non, .bl true, .bl false, .int 0, .int 1, .int 3, .int 4, .int 5, .int (-1), .int (10 ^ Int.toNat 59), .str "", .str "a", .str "A", .str "ab c", .str "sevenab", .tup [], .ref p1, .ref p2] ++ [.tup [.tup [.int 0, .int 1]], .tup [.int 0]]
theorem odd0_len {p1 p2 : Addr} : (odd0 p1 p2).length = 20 := rfl
theorem gen5 {M : Mp} {p1 p2 p5 : Addr} {G : Mp → Prop} {X : Mp} (k : Keep M X) (a : X p1 = some (.lst [])) (b : X p2 = some (.dK [])) (e : X p5 = some (.lst (odd0 p1 p2))) (h : ∀ M5, Keep M M5 → M5 p1 = some (.lst []) → M5 p2 = some (.dK []) → M5 p5 = some (.lst (odd0 p1 p2)) → G M5) : G X := h X k a b e
theorem upper_asc {z : Str} (h : asc z) : asc (Txt.upper z) ∧ (Txt.upper z).length = z.length := by
  have h2 : z.cps.toList.all (· < 128) = true := h
  have e : Txt.upper z = SX.S (z.cps.toList.map PyProof.Rows.up1) := by
    conv => lhs; rw [show z = SX.S z.cps.toList from str_ext rfl]
    exact SX.upper_S h2
  rw [e]
  refine ⟨?_, ?_⟩
  · show (z.cps.toList.map PyProof.Rows.up1).all _ = true
    rw [List.all_map]
    refine List.all_eq_true.mpr fun c hc => decide_eq_true ?_
    have := of_decide_eq_true (List.all_eq_true.mp h c hc)
    show PyProof.Rows.up1 c < 128
    unfold PyProof.Rows.up1
    split <;> omega
  · show (z.cps.toList.map PyProof.Rows.up1).toArray.size = z.cps.size
    simp
theorem odd0_bv {p1 p2 : Addr} {M : Mp} {b n s : Nat} (hb : 60 ≤ b) (hn : 2 ≤ n) (hs : 4 ≤ s) (e1 : M p1 = some (.lst [])) (e2 : M p2 = some (.dK [])) : ∀ x ∈ odd0 p1 p2, Bv M b x n s := fun x hx => by
  obtain ⟨m, rfl⟩ : ∃ m, n = m + 2 := ⟨n - 2, by omega⟩
  have i59 : ∀ i : Int, i.natAbs < 10 ^ 60 → i.natAbs < 10 ^ b := fun i h => Nat.lt_of_lt_of_le h (pow_le hb)
  unfold odd0 at hx
  simp only [List.cons_append, List.nil_append, List.mem_cons, List.not_mem_nil, or_false] at hx
  rcases hx with rfl | rfl | rfl | rfl | rfl | rfl | rfl | rfl | rfl | rfl | rfl | rfl | rfl | rfl | rfl | rfl | rfl | rfl | rfl | rfl
  · exact .non (by omega)
  · exact .bl _ (by omega)
  · exact .bl _ (by omega)
  · exact .int (i59 _ (by decide +kernel)) (by omega)
  · exact .int (i59 _ (by decide +kernel)) (by omega)
  · exact .int (i59 _ (by decide +kernel)) (by omega)
  · exact .int (i59 _ (by decide +kernel)) (by omega)
  · exact .int (i59 _ (by decide +kernel)) (by omega)
  · exact .int (i59 _ (by decide +kernel)) (by omega)
  · exact .int (i59 _ (by decide +kernel)) (by omega)
  · exact .str (by unfold asc; decide +kernel) (Nat.le_trans (show _ ≤ 60 by decide +kernel) hb) (by omega)
  · exact .str (by unfold asc; decide +kernel) (Nat.le_trans (show _ ≤ 60 by decide +kernel) hb) (by omega)
  · exact .str (by unfold asc; decide +kernel) (Nat.le_trans (show _ ≤ 60 by decide +kernel) hb) (by omega)
  · exact .str (by unfold asc; decide +kernel) (Nat.le_trans (show _ ≤ 60 by decide +kernel) hb) (by omega)
  · exact .str (by unfold asc; decide +kernel) (Nat.le_trans (show _ ≤ 60 by decide +kernel) hb) (by omega)
  · exact .tup (s := 0) .nil (by omega)
  · exact .lst (s := 0) e1 .nil (by omega)
  · exact .dict e2 (by omega)
  · refine .tup (s := 3) (.one (.tup (s := 2) (.cons (s1 := 1) (s2 := 1) (.int (i59 _ (by decide +kernel)) (by omega)) (.one (.int (i59 _ (by decide +kernel)) (by omega))) (by omega)) (by omega))) (by omega)
  · exact .tup (s := 1) (.one (.int (i59 _ (by decide +kernel)) (by omega))) (by omega)
theorem nat_asc (n : Nat) : asc (Str.ofString (toString ((n : Nat) : Int))) := by
  unfold asc
  rw [show (Str.ofString (toString ((n : Nat) : Int))).cps.toList = TL.numL n from TL.tl_num n]
  refine List.all_eq_true.mpr fun c hc => decide_eq_true ?_
  have := TL.numL_digits n c hc
  omega
theorem txt_asc (i : Int) : asc (Str.ofString (toString i)) := by
  by_cases h : 0 ≤ i
  · obtain ⟨n, rfl⟩ := Int.eq_ofNat_of_zero_le h
    exact nat_asc n
  · have h2 : i < 0 := by omega
    obtain ⟨n, hn⟩ := Int.eq_ofNat_of_zero_le (show 0 ≤ 0 - i by omega)
    have h3 := nat_asc n
    unfold asc at h3 ⊢
    rw [PySem.Str.ofString_eq_toList] at h3 ⊢
    rw [PyProof.Rows.toString_neg h2, hn, String.toList_append, List.map_append]
    show ((("-" : String).toList.map Char.toNat) ++ ((toString ((n : Nat) : Int)).toList.map Char.toNat)).all _ = true
    rw [List.all_append, Bool.and_eq_true]
    exact ⟨by decide +kernel, h3⟩
theorem txt_len {i : Int} {b : Nat} (h : i.natAbs < 10 ^ b) : (Str.ofString (toString i)).length ≤ b + 2 := by
  have h1 := shown_int (i := i) (k := b + 1) (Nat.succ_pos b) (Nat.lt_of_lt_of_le h (pow_le (Nat.le_succ b)))
  have e : (py (.int i)).shown = Str.ofString (toString i) := by simp only [py, PyData.shown]
  rw [e] at h1
  exact h1
theorem pow_more {b k : Nat} {i j : Int} (h : i.natAbs < 10 ^ b) (hj : j.natAbs ≤ 1) (hk : 1 ≤ k) : (i + j).natAbs < 10 ^ (b + k) ∧ (i - j).natAbs < 10 ^ (b + k) := by
  have h1 : 10 ^ (b + 1) ≤ 10 ^ (b + k) := pow_le (by omega)
  rw [Nat.pow_succ] at h1
  have : 0 < 10 ^ b := Nat.pow_pos (by decide)
  omega
def S_l_odd (_ : Cs) : Spec := fun ds M Q => ∃ p d b n s, ds = [.ref p, d] ∧ M p = some .pot ∧ Bv M b d n s ∧ b ≤ 300 ∧ s ≤ 900 ∧ ∀ M' x, Keep M M' → Bv M' (b + 70) x (n + 2) (3 * s + 10) → Q x M'
abbrev N_l_odd : List Str := ["_law_pot_here", "_law_thing", "_law_some"]
def ir_l_odd (c : Cs) : Ss := (.cons (.asg (.name 2) (.lst (.cons .non (.cons (.bl true) (.cons (.bl false) (.cons (.int 0) (.cons (.int 1) (.cons (.int 3) (.cons (.int 4) (.cons (.int 5) (.cons (.neg (.int 1)) (.cons (.bin .Pow (.int 10) (.int 59)) (.cons (.str "") (.cons (.str "a") (.cons (.str "A") (.cons (.str "ab c") (.cons (.str "sevenab") (.cons (.tup .nil) (.cons (.lst .nil) (.cons (.dnew .k) .nil)))))))))))))))))))) (.cons (.asg (.name 2) (.bin .Add (.var 2) (.lst (.cons (.tup (.cons (.tup (.cons (.int 0) (.cons (.int 1) .nil))) .nil)) (.cons (.tup (.cons (.int 0) .nil)) .nil))))) (.cons (.ife (.isa (.var 1) (.bty "int") (isaB c "int")) (.cons (.asg (.name 2) (.bin .Add (.var 2) (.bin .Mult (.lst (.cons (E.addB (.var 1) (.int 1)) (.cons (E.subB (.var 1) (.int 1)) (.cons (E.strB (.var 1)) (.cons (.tup (.cons (.var 1) .nil)) .nil))))) (.int 3)))) .nil) .nil) (.cons (.ife (.isa (.var 1) (.bty "str") (isaB c "str")) (.cons (.asg (.name 2) (.bin .Add (.var 2) (.bin .Mult (.lst (.cons (.bin .Add (.var 1) (.str "q")) (.cons (.slc (.var 1) (.some (.int 1)) .none) (.cons (.upper (.var 1)) (.cons (.bin .Add (.var 1) (.bin .Mult (.str "a") (.int 6))) .nil))))) (.int 3)))) .nil) .nil) (.cons (.ife (.isa (.var 1) (.bty "tuple") (isaB c "tuple")) (.cons (.asg (.name 2) (.bin .Add (.var 2) (.bin .Mult (.lst (.cons (.bcall .list (.cons (.var 1) .nil)) (.cons (.rev (.var 1)) (.cons (.bin .Add (.var 1) (.slc (.var 1) .none (.some (.int 1)))) (.cons (.slc (.var 1) (.some (.int 1)) .none) (.cons (.tup (.cons (.var 1) .nil)) .nil)))))) (.int 3)))) .nil) .nil) (.cons (.ret (.call "_law_of" (S_l_of c) (.cons (.var 0) (.cons (.var 2) .nil)))) .nil))))))
theorem wp_l_odd (c : Cs) {p : Addr} {d : D} {b n s : Nat} {M : Mp} {Q : DQ} (hp : M p = some .pot) (hd : Bv M b d n s) (b3 : b ≤ 300) (s9 : s ≤ 900) (h : ∀ M' x, Keep M M' → Bv M' (b + 70) x (n + 2) (3 * s + 10) → Q x M') :
    (ir_l_odd c).wp (bodyEnds Q) [some (.ref p), some d, none] M := by
  have cp : CPow 10 59 := ⟨by decide, by decide, by decide⟩
  have fin : ∀ (M5 : Mp) (q : Addr) (X : List D), Keep M M5 → M5 q = some (.lst X) → X ≠ [] → X.length ≤ 100 → (∀ x ∈ X, Bv M5 (b + 70) x (n + 2) (3 * s + 10)) → S_l_of c [.ref p, .ref q] M5 Q := fun M5 q X k e hn hl hx => ⟨p, q, X, rfl, k _ _ hp, e, hn, by omega, fun x hm => h M5 x k (hx x hm)⟩
  simp only [wX, ir_l_odd, E.addB, E.subB, E.strB]
  refine ⟨cp, by simp [sizeLine_eq], by simp [sizeLine_eq], fun p1 h1 p2 h2 => ⟨by simp [sizeLine_eq], fun p3 h3 => ⟨by simp [sizeLine_eq], by simp [sizeLine_eq], by simp [sizeLine_eq], by simp [sizeLine_eq], fun p4 h4 => ?_⟩⟩⟩
  have e1 := (Keep.new h4 (o := .lst [D.tup [D.tup [D.int 0, D.int 1]], D.tup [D.int 0]])) _ _ ((Keep.new h3 (o := .lst [.non, .bl true, .bl false, .int 0, .int 1, .int 3, .int 4, .int 5, .int (-1), .int (10 ^ Int.toNat 59), .str "", .str "a", .str "A", .str "ab c", .str "sevenab", .tup [], .ref p1, .ref p2])) _ _ ((Keep.new h2 (o := .dK [])) _ _ (up_same (M := M) (a := p1) (o := .lst []))))
  have e2 := (Keep.new h4 (o := .lst [D.tup [D.tup [D.int 0, D.int 1]], D.tup [D.int 0]])) _ _ ((Keep.new h3 (o := .lst [.non, .bl true, .bl false, .int 0, .int 1, .int 3, .int 4, .int 5, .int (-1), .int (10 ^ Int.toNat 59), .str "", .str "a", .str "A", .str "ab c", .str "sevenab", .tup [], .ref p1, .ref p2])) _ _ (up_same (M := up M p1 (.lst [])) (a := p2) (o := .dK [])))
  have e3 := (Keep.new h4 (o := .lst [D.tup [D.tup [D.int 0, D.int 1]], D.tup [D.int 0]])) _ _ (up_same (M := up (up M p1 (.lst [])) p2 (.dK [])) (a := p3) (o := .lst [.non, .bl true, .bl false, .int 0, .int 1, .int 3, .int 4, .int 5, .int (-1), .int (10 ^ Int.toNat 59), .str "", .str "a", .str "A", .str "ab c", .str "sevenab", .tup [], .ref p1, .ref p2]))
  have k4 := (((Keep.new h1 (o := .lst [])).trans (Keep.new h2 (o := .dK []))).trans (Keep.new h3 (o := .lst [.non, .bl true, .bl false, .int 0, .int 1, .int 3, .int 4, .int 5, .int (-1), .int (10 ^ Int.toNat 59), .str "", .str "a", .str "A", .str "ab c", .str "sevenab", .tup [], .ref p1, .ref p2]))).trans (Keep.new h4 (o := .lst [D.tup [D.tup [D.int 0, D.int 1]], D.tup [D.int 0]]))
  refine ⟨_, _, e3, up_same, by simp [sizeLine_eq], fun p5 h5 => ?_⟩
  have k5 : Keep M _ := k4.trans (Keep.new h5 (o := .lst (odd0 p1 p2)))
  have e15 := (Keep.new h5 (o := .lst (odd0 p1 p2))) _ _ e1
  have e25 := (Keep.new h5 (o := .lst (odd0 p1 p2))) _ _ e2
  have e5 := up_same (M := up (up (up (up M p1 (.lst [])) p2 (.dK [])) p3 (.lst [.non, .bl true, .bl false, .int 0, .int 1, .int 3, .int 4, .int 5, .int (-1), .int (10 ^ Int.toNat 59), .str "", .str "a", .str "A", .str "ab c", .str "sevenab", .tup [], .ref p1, .ref p2])) p4 (.lst [D.tup [D.tup [D.int 0, D.int 1]], D.tup [D.int 0]])) (a := p5) (o := .lst (odd0 p1 p2))
  clear e1 e2 e3 k4
  refine gen5 k5 e15 e25 e5 fun M5 k5 e1 e2 e5 => ?_
  have o5 : ∀ {M' : Mp}, Keep M5 M' → ∀ x ∈ odd0 p1 p2, Bv M' (b + 70) x (n + 2) (3 * s + 10) := fun {M'} k' => odd0_bv (by omega) (by omega) (by omega) (k' _ _ e1) (k' _ _ e2)
  have hd5 := hd.keep k5
  have spos := hd.pos
  have l0 : (odd0 p1 p2).length = 20 := rfl
  have more3 : ∀ (M6 : Mp) (q : Addr) (X add : List D) (K : DQ), M6 q = some (.lst X) → X.length ≤ 100 → add.length ≤ 10 → (∀ r M7, Keep M6 M7 → M7 r = some (.lst (X ++ (List.replicate (Int.toNat 3) add).flatten)) → K (.ref r) M7) → ∀ p6, M6 p6 = none → mulD (.ref p6) (.int 3) (up M6 p6 (.lst add)) fun y M7 => addD (.ref q) y M7 K := fun M6 q X add K hq zX za hK p6 h6 => by
    refine ⟨_, up_same, by decide, by decide, by rw [sizeLine_eq]; show add.length * 3 ≤ _; omega, fun p7 h7 => ⟨_, _, (Keep.new h7) _ _ ((Keep.new h6) _ _ hq), up_same, ?_, fun p8 h8 => hK p8 _ (((Keep.new h6).trans (.new h7)).trans (.new h8)) up_same⟩⟩
    rw [sizeLine_eq]
    simp
    omega
  have mem3 : ∀ {X add : List D} {x : D}, x ∈ X ++ (List.replicate (Int.toNat 3) add).flatten → x ∈ X ∨ x ∈ add := fun {X add x} hx => by
    rcases List.mem_append.mp hx with hx | hx
    · exact .inl hx
    · obtain ⟨l, hl, hx⟩ := List.mem_flatten.mp hx
      rw [(List.mem_replicate.mp hl).2] at hx
      exact .inr hx
  have num : ∀ (i : Int), i.natAbs < 10 ^ b → ∀ M6, ∀ x ∈ [D.int (i + 1), D.int (i - 1), D.str (Str.ofString (toString i))], Bv M6 (b + 70) x (n + 2) (3 * s + 10) := fun i hi M6 x hx => by
    have hm := pow_more (k := 70) hi (j := 1) (by decide) (by decide)
    simp only [List.mem_cons, List.not_mem_nil, or_false] at hx
    rcases hx with rfl | rfl | rfl
    · exact .int hm.1 (by omega)
    · exact .int hm.2 (by omega)
    · exact .str (txt_asc i) (Nat.le_trans (txt_len hi) (by omega)) (by omega)
  cases hd5 with
  | non hs =>
    refine ⟨false, rfl, ?_⟩
    rw [if_neg Bool.false_ne_true]
    refine ⟨false, rfl, ?_⟩
    rw [if_neg Bool.false_ne_true]
    refine ⟨false, rfl, ?_⟩
    rw [if_neg Bool.false_ne_true]
    exact fin _ p5 _ k5 e5 (by simp [odd0]) (by simp [odd0_len]) (o5 (.refl _))
  | bl x hs =>
    refine ⟨true, rfl, ?_⟩
    rw [if_pos rfl]
    refine .inr ⟨x, 1, rfl, rfl, 1, rfl, .inr ⟨x, rfl, .inr ⟨x, rfl, by simp [sizeLine_eq], by simp [sizeLine_eq], more3 M5 p5 _ _ _ e5 (by rw [l0]; decide) (by simp) fun r M7 k7 hr => ?_⟩⟩⟩
    refine ⟨false, rfl, ?_⟩
    rw [if_neg Bool.false_ne_true]
    refine ⟨false, rfl, ?_⟩
    rw [if_neg Bool.false_ne_true]
    refine fin _ r _ (k5.trans k7) hr (by simp [odd0]) (by simp [odd0_len]) fun y hy => ?_
    rcases mem3 hy with hy | hy
    · exact o5 k7 y hy
    · have hp : 0 < 10 ^ (b + 69) := Nat.pow_pos (by decide)
      have hq : 10 ^ (b + 70) = 10 ^ (b + 69) * 10 := Nat.pow_succ ..
      simp only [List.mem_cons, List.not_mem_nil, or_false] at hy
      rcases hy with rfl | rfl | rfl | rfl
      · exact .int (by cases x <;> simp [b1] <;> omega) (by omega)
      · exact .int (by cases x <;> simp [b1] <;> omega) (by omega)
      · exact .str (by cases x <;> (unfold asc; decide +kernel)) (Nat.le_trans (show _ ≤ 5 by cases x <;> decide +kernel) (by omega)) (by omega)
      · exact .tup (n := n + 1) (.one (.bl x (s := 1) (by omega))) (by omega)
  | int hi hs =>
    rename_i i
    refine ⟨true, rfl, ?_⟩
    rw [if_pos rfl]
    refine .inl ⟨1, rfl, .inl ⟨i, rfl, .inl (.inl ⟨i, rfl, ?_, by simp [sizeLine_eq], by simp [sizeLine_eq], more3 M5 p5 _ _ _ e5 (by rw [l0]; decide) (by simp) fun r M7 k7 hr => ?_⟩)⟩⟩
    · simpa only [PyData.showable, decide_eq_true_eq] using show_pow hi (by omega)
    refine ⟨false, rfl, ?_⟩
    rw [if_neg Bool.false_ne_true]
    refine ⟨false, rfl, ?_⟩
    rw [if_neg Bool.false_ne_true]
    refine fin _ r _ (k5.trans k7) hr (by simp [odd0]) (by simp [odd0_len]) fun y hy => ?_
    rcases mem3 hy with hy | hy
    · exact o5 k7 y hy
    · have hn := num i hi M7 y
      simp only [List.mem_cons, List.not_mem_nil, or_false] at hy hn
      rcases hy with rfl | rfl | rfl | rfl
      · exact hn (.inl rfl)
      · exact hn (.inr (.inl rfl))
      · exact hn (.inr (.inr rfl))
      · exact .tup (n := n + 1) (.one (.int (s := 1) (Nat.lt_of_lt_of_le hi (pow_le (by omega))) (by omega))) (by omega)
  | str ha hl hs =>
    rename_i z
    refine ⟨false, rfl, ?_⟩
    rw [if_neg Bool.false_ne_true]
    refine ⟨true, rfl, ?_⟩
    rw [if_pos rfl]
    have lq : (Str.ofString "q").length = 1 := by decide +kernel
    have la : (Str.ofString "a").length = 1 := by decide +kernel
    have lr : (repS (Str.ofString "a") (Int.toNat 6)).length = 6 := by decide +kernel
    refine ⟨by rw [lq, sizeLine_eq]; omega, slD_s rfl (by rw [sizeLine_eq]; omega) ⟨rfl, z, rfl, rfl, by omega, by decide, by decide, by rw [la]; decide, by rw [la]; decide, ?_⟩⟩
    show addD (.str z) (.str (repS (Str.ofString "a") (Int.toNat 6))) M5 _
    refine ⟨by rw [lr, sizeLine_eq]; omega, by simp [sizeLine_eq], more3 M5 p5 _ _ _ e5 (by rw [l0]; decide) (by simp) fun r M7 k7 hr => ?_⟩
    refine ⟨false, rfl, ?_⟩
    rw [if_neg Bool.false_ne_true]
    refine fin _ r _ (k5.trans k7) hr (by simp [odd0]) (by simp [odd0_len]) fun y hy => ?_
    rcases mem3 hy with hy | hy
    · exact o5 k7 y hy
    · simp only [List.mem_cons, List.not_mem_nil, or_false] at hy
      rcases hy with rfl | rfl | rfl | rfl
      · exact .str (app_ascii ha (by decide +kernel)) (by rw [strLen_append, lq]; omega) (by omega)
      · exact .str (cutS_ascii ha) (Nat.le_trans cutS_len (by omega)) (by omega)
      · exact .str (upper_asc ha).1 (by rw [(upper_asc ha).2]; omega) (by omega)
      · exact .str (app_ascii ha (by decide +kernel)) (by rw [strLen_append, lr]; omega) (by omega)
  | tup hx hs =>
    rename_i ds n s0
    have hlen := hx.len
    refine ⟨false, rfl, ?_⟩
    rw [if_neg Bool.false_ne_true]
    refine ⟨false, rfl, ?_⟩
    rw [if_neg Bool.false_ne_true]
    refine ⟨true, rfl, ?_⟩
    rw [if_pos rfl]
    refine list_t fun p6 h6 => .inl ⟨_, rfl, ?_⟩
    refine slD_t rfl ?_
    have hc1 := cut_sub ds none (some 1)
    have hc2 := cut_sub ds (some 1) none
    have l1 := hc1.length_le
    have l2 := hc2.length_le
    simp only [wX]
    have k6 := Keep.new (o := .lst ds) h6
    refine ⟨by rw [sizeLine_eq]; omega, slD_t rfl ⟨by simp [sizeLine_eq], by simp [sizeLine_eq], more3 _ p5 _ _ _ (k6 _ _ e5) (by rw [l0]; decide) (by simp) fun r M7 k7 hr => ?_⟩⟩
    have e6 := k7 _ _ (up_same (M := M5) (a := p6) (o := .lst ds))
    refine fin _ r _ (k5.trans (k6.trans k7)) hr (by simp [odd0]) (by simp [odd0_len]) fun y hy => ?_
    have hx7 := (hx.keep (k6.trans k7)).mono (show b ≤ b + 70 by omega) (Nat.le_refl n) (Nat.le_refl s0)
    have up : ∀ {xs : List D} {t : Nat}, Bvs M7 (b + 70) xs n t → t + 1 ≤ 3 * s + 10 → Bv M7 (b + 70) (.tup xs) (n + 1 + 2) (3 * s + 10) := fun {xs t} g ht => .tup (n := n + 2) (g.mono (Nat.le_refl _) (by omega) (Nat.le_refl _)) ht
    rcases mem3 hy with hy | hy
    · exact o5 (k6.trans k7) y hy
    · simp only [List.mem_cons, List.not_mem_nil, or_false] at hy
      rcases hy with rfl | rfl | rfl | rfl | rfl
      · exact .lst (n := n + 2) e6 (hx7.mono (Nat.le_refl _) (by omega) (Nat.le_refl _)) (by omega)
      · exact up hx7.reverse (by omega)
      · exact up (hx7.append (hx7.sub hc1)) (by omega)
      · exact up (hx7.sub hc2) (by omega)
      · exact .tup (n := n + 2) (.one (.tup (n := n + 1) (hx7.mono (Nat.le_refl _) (by omega) (Nat.le_refl _)) (Nat.le_refl _))) (by omega)
  | lst e hx hs =>
    have kr : ∀ {a : Addr} {M' : Mp} {ds : List D}, M' a = some (.lst ds) → kn (.ref a) M' := fun {a M' ds} e => ⟨"list", by show kindO (M' a) = _; rw [e]; rfl⟩
    refine ⟨false, isaB_ref (kr e) (by decide) (by decide), ?_⟩
    rw [if_neg Bool.false_ne_true]
    refine ⟨false, isaB_ref (kr e) (by decide) (by decide), ?_⟩
    rw [if_neg Bool.false_ne_true]
    refine ⟨false, isaB_ref (kr e) (by decide) (by decide), ?_⟩
    rw [if_neg Bool.false_ne_true]
    exact fin _ p5 _ k5 e5 (by simp [odd0]) (by simp [odd0_len]) (o5 (.refl _))
  | dict e hs =>
    have kr : ∀ {a : Addr} {M' : Mp}, M' a = some (.dK []) → kn (.ref a) M' := fun {a M'} e => ⟨"dict", by show kindO (M' a) = _; rw [e]; rfl⟩
    refine ⟨false, isaB_ref (kr e) (by decide) (by decide), ?_⟩
    rw [if_neg Bool.false_ne_true]
    refine ⟨false, isaB_ref (kr e) (by decide) (by decide), ?_⟩
    rw [if_neg Bool.false_ne_true]
    refine ⟨false, isaB_ref (kr e) (by decide) (by decide), ?_⟩
    rw [if_neg Bool.false_ne_true]
    exact fin _ p5 _ k5 e5 (by simp [odd0]) (by simp [odd0_len]) (o5 (.refl _))
theorem use_l_odd (c : Cs) (ds : List D) (M : Mp) (Q : DQ) (z : szs ds) (zm : szM M) (h : S_l_odd c ds M Q) : (ir_l_odd c).wp (bodyEnds Q) (startD N_l_odd ds) M := by
  obtain ⟨p, d, b, n, s, rfl, hp, hd, hb, hs, h⟩ := h
  exact wp_l_odd c hp hd hb hs h
end DL
namespace DL
open PySem L2
theorem cut_from {α : Type} {xs : List α} {a : Nat} : cutL xs (some (a : Int)) none = xs.drop a := by
  unfold cutL
  rw [HT.sIx_nat, HT.sIx_none]
  by_cases h : a ≤ xs.length
  · rw [Nat.min_eq_left h, List.take_of_length_le (by rw [List.length_drop]; omega)]
  · rw [Nat.min_eq_right (by omega), List.drop_of_length_le (Nat.le_refl _), List.drop_of_length_le (by omega), List.take_nil]
theorem kn_lst {a : Addr} {M : Mp} {ds : List D} (e : M a = some (.lst ds)) : kn (.ref a) M := ⟨"list", by show kindO (M a) = _; rw [e]; rfl⟩
theorem kn_dk {a : Addr} {M : Mp} {kvs : List (Key × D)} (e : M a = some (.dK kvs)) : kn (.ref a) M := ⟨"dict", by show kindO (M a) = _; rw [e]; rfl⟩
def S_l_bent_ : Nat → Cs → Spec
  | 0, _ => fun _ _ _ => False
  | f + 1, _ => fun ds M Q => ∃ p d b n s, ∃ k : Int, ds = [.ref p, d, .int k] ∧ M p = some .pot ∧ 0 ≤ k ∧ k ≤ (f : Int) ∧ Bv M b d n s ∧ b ≤ 300 ∧ s ≤ 900 ∧ ∀ M' x, Keep M M' → Bv M' (b + 70) x (n + 2) (3 * s + 10) → Q x M'
def S_l_bent (c : Cs) : Spec := S_l_bent_ 62 c
abbrev N_l_bent : List Str := ["_law_pot_here", "_law_thing", "_law_deep", "_law_way", "_law_at"]
def ir_l_bent (d : Nat) (c : Cs) : Ss := (.cons (.ife (.bop .Or (.cons (.not_ (.isa (.var 1) (.bty "tuple") (isaB c "tuple"))) (.cons (.cmpD (.var 1) (.tup .nil)) (.cons (.cmp .Eq (.var 2) (.int 0)) (.cons (.cmp .Eq (.call "_law_take" (S_l_take c) (.cons (.var 0) (.cons (.int 5) .nil))) (.int 0)) .nil))))) (.cons (.ret (.call "_law_odd" (S_l_odd c) (.cons (.var 0) (.cons (.var 1) .nil)))) .nil) .nil) (.cons (.par 3 4 (.cons (.call "_law_take" (S_l_take c) (.cons (.var 0) (.cons (.int 8) .nil))) (.cons (.call "_law_take" (S_l_take c) (.cons (.var 0) (.cons (.bcall .len (.cons (.var 1) .nil)) .nil))) .nil))) (.cons (.ife (.cmp .Eq (.var 3) (.int 0)) (.cons (.ret (.bin .Add (.slc (.var 1) .none (.some (.var 4))) (.slc (.var 1) (.some (.bin .Add (.var 4) (.int 1))) .none))) .nil) .nil) (.cons (.ife (.cmp .Eq (.var 3) (.int 1)) (.cons (.ret (.bin .Add (.bin .Add (.slc (.var 1) .none (.some (.var 4))) (.slc (.var 1) (.some (.var 4)) (.some (.bin .Add (.var 4) (.int 1))))) (.slc (.var 1) (.some (.var 4)) .none))) .nil) .nil) (.cons (.ife (.cmp .Eq (.var 3) (.int 2)) (.cons (.ret (.bin .Add (.bin .Add (.slc (.var 1) .none (.some (.var 4))) (.rev (.slc (.var 1) (.some (.var 4)) (.some (.bin .Add (.var 4) (.int 2)))))) (.slc (.var 1) (.some (.bin .Add (.var 4) (.int 2))) .none))) .nil) .nil) (.cons (.ret (.bin .Add (.bin .Add (.slc (.var 1) .none (.some (.var 4))) (.tup (.cons (.call "_law_bent" (S_l_bent_ d c) (.cons (.var 0) (.cons (.idx (.var 1) (.var 4)) (.cons (.bin .Sub (.var 2) (.int 1)) .nil)))) .nil))) (.slc (.var 1) (.some (.bin .Add (.var 4) (.int 1))) .none))) .nil))))))
theorem wp_l_bent (f : Nat) (c : Cs) {p : Addr} {d : D} {b n s : Nat} {k : Int} {M : Mp} {Q : DQ} (hp : M p = some .pot) (k0 : 0 ≤ k) (kf : k ≤ (f : Int)) (hd : Bv M b d n s) (b3 : b ≤ 300) (s9 : s ≤ 900) (h : ∀ M' x, Keep M M' → Bv M' (b + 70) x (n + 2) (3 * s + 10) → Q x M') :
    (ir_l_bent f c).wp (bodyEnds Q) [some (.ref p), some d, some (.int k), none, none] M := by
  have odd : S_l_odd c [.ref p, d] M Q := ⟨p, d, b, n, s, rfl, hp, hd, b3, s9, h⟩
  cases hd with
  | non hs =>
    simp only [wX, ir_l_bent]
    exact ⟨false, rfl, by rw [if_pos (by simp)]; exact odd⟩
  | bl x hs =>
    simp only [wX, ir_l_bent]
    exact ⟨false, rfl, by rw [if_pos (by simp)]; exact odd⟩
  | int h1 h2 =>
    simp only [wX, ir_l_bent]
    exact ⟨false, rfl, by rw [if_pos (by simp)]; exact odd⟩
  | str h1 h2 h3 =>
    simp only [wX, ir_l_bent]
    exact ⟨false, rfl, by rw [if_pos (by simp)]; exact odd⟩
  | lst e h1 h2 =>
    simp only [wX, ir_l_bent]
    exact ⟨false, isaB_ref (kn_lst e) (by decide) (by decide), by rw [if_pos (by simp)]; exact odd⟩
  | dict e h1 =>
    simp only [wX, ir_l_bent]
    exact ⟨false, isaB_ref (kn_dk e) (by decide) (by decide), by rw [if_pos (by simp)]; exact odd⟩
  | tup hx hs =>
    rename_i ds n s0
    simp only [wX, ir_l_bent]
    refine ⟨true, rfl, ?_⟩
    rw [if_neg (by simp)]
    have hlen := hx.len
    have fin : ∀ (xs : List D) (t : Nat) (M1 : Mp), Keep M M1 → Bvs M1 (b + 70) xs (n + 2) t → t + 1 ≤ 3 * s + 10 → Q (.tup xs) M1 := fun xs t M1 k1 g ht => h M1 _ k1 (.tup (n := n + 2) g ht)
    have hx7 := hx.mono (show b ≤ b + 70 by omega) (show n ≤ n + 2 by omega) (Nat.le_refl s0)
    refine ⟨by simp [sizeLine_eq], .inr (.inr ⟨ds, rfl, rfl, ⟨_, rfl, ?_⟩⟩)⟩
    cases he : ds.isEmpty with
    | true => rw [if_pos (by simp)]; exact odd
    | false =>
    rw [if_neg (by simp)]
    by_cases ek : k = 0
    · rw [if_pos (decide_eq_true ek)]
      exact odd
    rw [decide_eq_false ek, if_neg Bool.false_ne_true]
    refine ⟨p, 5, rfl, hp, by decide, by decide, fun r r0 r1 => ?_⟩
    simp only [wX]
    by_cases er : r = 0
    · rw [if_pos (decide_eq_true er)]
      exact odd
    rw [decide_eq_false er, if_neg Bool.false_ne_true]
    have hpos : 0 < ds.length := by cases ds <;> simp_all
    refine ⟨p, 8, rfl, hp, by decide, by decide, fun w w0 w1 => ⟨p, _, rfl, hp, by omega, by omega, fun a a0 a1 => ⟨_, _, rfl, ?_⟩⟩⟩
    obtain ⟨a, rfl⟩ := Int.eq_ofNat_of_zero_le a0
    have al : a < ds.length := by omega
    have et : cutL ds none (some (a : Int)) = ds.take a := cut_take (by omega)
    have ed1 : cutL ds (some ((a : Int) + 1)) none = ds.drop (a + 1) := cut_from (a := a + 1)
    have ed0 : cutL ds (some (a : Int)) none = ds.drop a := cut_from
    have lt := List.length_take_le' a ds
    have cs : ∀ lo hi, (cutL ds lo hi).Sublist ds := cut_sub ds
    have cl : ∀ lo hi, (cutL ds lo hi).length ≤ ds.length := fun lo hi => (cs lo hi).length_le
    obtain ⟨y, hy⟩ : ∃ y, ds[a]? = some y := ⟨ds[a], List.getElem?_eq_getElem al⟩
    obtain ⟨s1, s2, s3, q1, q2, q3, q4⟩ := hx7.at hy
    simp only [wX]
    by_cases w0' : w = 0
    · rw [if_pos (decide_eq_true w0')]
      refine slD_t rfl (slD_t rfl ?_)
      simp only [wX]
      refine ⟨by have := cl none (some (a : Int)); have := cl (some ((a : Int) + 1)) none; rw [sizeLine_eq]; omega, ?_⟩
      rw [et, ed1]
      exact fin _ _ M (.refl _) (q1.append q3) (by omega)
    rw [decide_eq_false w0', if_neg Bool.false_ne_true]
    by_cases w1' : w = 1
    · rw [if_pos (decide_eq_true w1')]
      refine slD_t rfl (slD_t rfl ?_)
      have e1 := cl none (some (a : Int))
      have e2 := cl (some (a : Int)) (some ((a : Int) + 1))
      have e3 := cl (some (a : Int)) none
      simp only [wX]
      refine ⟨by rw [sizeLine_eq]; omega, slD_t rfl ?_⟩
      simp only [wX]
      exact ⟨by rw [List.length_append, sizeLine_eq]; omega, fin _ _ M (.refl _) (((hx7.sub (cs _ _)).append (hx7.sub (cs _ _))).append (hx7.sub (cs _ _))) (by omega)⟩
    rw [decide_eq_false w1', if_neg Bool.false_ne_true]
    by_cases w2' : w = 2
    · rw [if_pos (decide_eq_true w2')]
      refine slD_t rfl (slD_t rfl (.inl ⟨_, rfl, ?_⟩))
      have e1 := cl none (some (a : Int))
      have e2 := cl (some (a : Int)) (some ((a : Int) + 2))
      have e3 := cl (some ((a : Int) + 2)) none
      simp only [wX]
      refine ⟨by rw [List.length_reverse, sizeLine_eq]; omega, slD_t rfl ?_⟩
      simp only [wX]
      exact ⟨by rw [List.length_append, List.length_reverse, sizeLine_eq]; omega, fin _ _ M (.refl _) (((hx7.sub (cs _ _)).append (hx7.sub (cs _ _)).reverse).append (hx7.sub (cs _ _))) (by omega)⟩
    rw [decide_eq_false w2', if_neg Bool.false_ne_true]
    obtain ⟨f, rfl⟩ : ∃ f', f = f' + 1 := ⟨f - 1, by omega⟩
    obtain ⟨t1, t2, t3, u1, u2, u3, u4⟩ := hx.at hy
    refine slD_t rfl (ix_t a hy ⟨p, y, b, n, t2, k - 1, rfl, hp, by omega, by omega, u2, b3, by omega, fun M1 e k1 he => ?_⟩)
    simp only [wX]
    have e1 := cl none (some (a : Int))
    have e3 := cl (some ((a : Int) + 1)) none
    refine ⟨by simp [sizeLine_eq], by rw [sizeLine_eq]; simp; omega, slD_t rfl ?_⟩
    simp only [wX]
    refine ⟨by rw [List.length_append, sizeLine_eq]; simp; omega, ?_⟩
    rw [et, ed1]
    have v1 := (u1.keep k1).mono (show b ≤ b + 70 by omega) (show n ≤ n + 2 by omega) (Nat.le_refl t1)
    have v3 := (u3.keep k1).mono (show b ≤ b + 70 by omega) (show n ≤ n + 2 by omega) (Nat.le_refl t3)
    exact fin _ _ M1 k1 ((v1.append (.one he)).append v3) (by omega)
theorem use_l_bent (f : Nat) (c : Cs) (ds : List D) (M : Mp) (Q : DQ) (z : szs ds) (zm : szM M) (h : S_l_bent_ (f + 1) c ds M Q) : (ir_l_bent f c).wp (bodyEnds Q) (startD N_l_bent ds) M := by
  obtain ⟨p, d, b, n, s, k, rfl, hp, k0, kf, hd, b3, s9, h⟩ := h
  exact wp_l_bent f c hp k0 kf hd b3 s9 h
end DL
namespace DL
open PySem PySem.Spec PyProof.Rows L2
theorem run_makeKS {X : Cx} {CX : CXT} {k n : Nat} {f C : Addr} {fd : FuncData} {ps ks : List Str} {sp : Sp} {E : XK} {g : List Value → List Value → List Value} {gV : List V → List V → List V} {pins : List (Addr × Obj)} {σ : L2.St} {H : Hp} {s : Shared} {Q : VK} {us ws : List Value} {vs zs : List V} (M : Mk X.K C f) (F : FnOk X.prog X.w X.K X.mg X.base CX k f fd ps sp) (hr : Room (k + 1) X.A) (hb : KBn X.K fd ps (n + 1) ks g gV) (hx : PassesAt CX X σ E)
    (I : Inv X pins σ H s) (r : Vals vs us) (rz : Vals zs ws) (l1 : vs.length = n) (l2 : zs.length = ks.length)
    (h : ∀ x dx, H x = none → H dx = none → dx ≠ x → sp (gV (.ref x :: vs) zs) (upd (upd H dx (.own x)) x (.ins C dx [])) (fun v H2 => v = .non ∧ Q (.ref x) H2) E) :
    wpAny (model X.prog X.w) X.A (call (.ref C) us (ks.zip ws)) (EP X pins σ Q) X.xe s := by
  have hq := h (s.heap.objs.size + 1) s.heap.objs.size (I.hok.fresh (Nat.le_succ _)) (I.hok.fresh (Nat.le_refl _)) (Nat.ne_of_lt (Nat.lt_succ_self _))
  have I2 := Inv.made (C := C) I
  have r1 : Vals (V.ref (s.heap.objs.size + 1) :: vs) (Value.ref (s.heap.objs.size + 1) :: us) := .cons rfl r
  have r2 := hb.rel r1 rz
  have n1 : (Value.ref (s.heap.objs.size + 1) :: us).length = n + 1 := by
    rw [List.length_cons, ← r.length, l1]
  refine wpAny_call (make_map (f := f) I.kIn M.makes M.init (beq_iff_eq.mp M.fn) (codeAny_mono (F.run _ X.stack _ _ ⟨Value.ref (s.heap.objs.size + 1) :: us, ks.zip ws⟩ (g (Value.ref (s.heap.objs.size + 1) :: us) ws) _ _ E (hr.make C us (ks.zip ws))
    (I2.env0.make C us (ks.zip ws)) (hb.to _ (Value.ref (s.heap.objs.size + 1) :: us) ws I2.kIn n1 (rz.length.symm.trans l2)) r2 hq) fun r s' hq' => ?_))
  cases r with
  | error e => exact hx pins _ _ e s' I2 hq'
  | ok fl =>
    cases fl with
    | ret u =>
      obtain ⟨v, H', I3, rv, ev, q3⟩ := I2.after hq'
      subst ev
      exact ⟨rv, ⟨V.ref (s.heap.objs.size + 1), H', I3, rfl, q3⟩⟩
    | next => exact False.elim hq'
    | brk => exact False.elim hq'
    | cont => exact False.elim hq'
def makeX (C : Addr) (S : XSpec) (gD : List D → List D) : XSpec := fun ds M Q E => ∀ x, M x = none → S (gD (.ref x :: ds)) (up M x (.ins C [])) (fun d M' => d = .non ∧ Q (.ref x) M') E
theorem CalleeX.makeK {c : Co} {x : Str} {n k : Nat} {ks : List Str} {S : XSpec} {f C : Addr} {fd : FuncData} {ps : List Str} {g : List Value → List Value → List Value} {gV : List V → List V → List V} {gD : List D → List D} (Mk' : Mk c.K C f) (F : FnOk c.prog c.w c.K c.mg c.base (L2.CX c.prog c.w) k f fd ps (spDX c.K S)) (hr : Room (k + 1) c.A) (hm : c.mg x = some (.ref C))
    (hb : KBn c.K fd ps (n + 1) ks g gV) (hg : ∀ H ds vs zs, vs.length = n → zs.length = ks.length → Reps c.K H ds (vs ++ zs) → ∀ x, Reps c.K H (gD (.ref x :: ds)) (gV (.ref x :: vs) zs)) : CalleeX c x n ks (makeX C S gD) := by
  refine ⟨C, hm, Mk'.kp, ?_⟩
  rintro X rfl hc W tk pins s σ H Q us ws vs zs I r rz hl hz h
  refine run_makeKS (vs := vs) (zs := zs) (E := L2.WE W σ) Mk' F hr hb (passAt tk σ) I r rz hl hz fun p dx hp hdx hne => ?_
  obtain ⟨ds, M, F', Q0, E0, rd, m, fr, h, go, gx⟩ := h
  have n1 : upd H dx (.own p) p = none := by rw [upd_ne (Ne.symm hne)]; exact hp
  have t1 : TupS X.K H (upd H dx (.own p)) := .new hdx
  have t2 : TupS X.K (upd H dx (.own p)) (upd (upd H dx (.own p)) p (.ins C dx [])) := .new n1
  have m2 : RepM X.K (upd (upd H dx (.own p)) p (.ins C dx [])) (up M p (.ins C [])) := (m.more hdx).new n1 ⟨dx, [], upd_same, by unfold Pairs; rfl⟩
  have f1 : Frm F' H (upd H dx (.own p)) M := fr.more hdx
  have f2 := (fr.next f1).new (u := .ins C dx []) n1 (.ins C [])
  refine ⟨gD (.ref p :: ds), up M p (.ins C []), F', _, E0, ((hg H ds vs zs hl hz rd p).stay t1).stay t2, m2, (fr.next f1).next f2, h p (m.none hp), fun d M' v H' q t f r' p' => ?_, fun C' d M' H' q t f r' => ?_⟩
  · obtain ⟨rfl, q⟩ := q
    exact ⟨p', go _ M' _ H' q ((t1.trans t2).trans t) ((f1.trans f2).trans f) r' rfl⟩
  · exact gx C' d M' H' q ((t1.trans t2).trans t) ((f1.trans f2).trans f) r'
section
variable {P : Program} {w : World} {K : PySem.W.Frag} {mg : Str → Option Value} {base : Heap} {x : Str} {f : Addr} {fd : FuncData} {ps : List Str} {k : Nat} {S : XSpec}
theorem PrX.make {n : Nat} {ks : List Str} {C : Addr} (Mk' : Mk K C f) (F : FnOk P w K mg base (L2.CX P w) k f fd ps (spDX K S)) (hm : mg x = some (.ref C)) (hb : KBn K fd ps (n + 1) ks (fun us ws => us ++ ws) (fun vs zs => vs ++ zs)) : PrX P w K mg base (k + 1) x n ks (makeX C S id) := fun A hr =>
  CalleeX.makeK (c := ⟨P, w, K, mg, base, A⟩) Mk' F hr hm hb fun H ds vs zs l1 l2 r z => by
    show Reps K H (.ref z :: ds) (.ref z :: vs ++ zs)
    rw [List.cons_append]
    exact .cons rfl r
theorem PrX.makeD2 {n : Nat} {ks : List Str} {C a b : Addr} {nm nm2 : Str} (Mk' : Mk K C f) (F : FnOk P w K mg base (L2.CX P w) k f fd ps (spDX K S)) (hm : mg x = some (.ref C)) (he : etB K a = true) (hf : etB K b = true)
    (hb : ∃ mv : List Value, KBn K fd ps (n + 1) ks (fun us ws => us ++ ws ++ mv) (fun vs zs => vs ++ zs ++ [V.ref a, V.ref b])) : PrX P w K mg base (k + 1) x n ks (makeX C S fun ds => ds ++ [.tup [], .tup []]) := fun A hr => by
  obtain ⟨mv, hb⟩ := hb
  refine CalleeX.makeK (c := ⟨P, w, K, mg, base, A⟩) (gD := fun ds => ds ++ [.tup [], .tup []]) Mk' F hr hm hb fun H ds vs zs l1 l2 r z => ?_
  show Reps K H (.ref z :: (ds ++ [.tup [], .tup []])) (.ref z :: vs ++ zs ++ [V.ref a, V.ref b])
  rw [List.cons_append, List.cons_append]
  refine .cons rfl ?_
  have one : ∀ {q : Addr}, etB K q = true → Rep K H (.tup []) (.ref q) := fun {q} h => by
    unfold Rep
    exact ⟨q, [], rfl, etB_ok h H, by unfold Reps; rfl⟩
  rw [show ds ++ [D.tup [], .tup []] = ds ++ [D.tup []] ++ [D.tup []] by simp, show vs ++ zs ++ [V.ref a, V.ref b] = vs ++ zs ++ [V.ref a] ++ [V.ref b] by simp]
  exact Reps.snoc (Reps.snoc r (one he)) (one hf)
end
end DL
namespace DL
open PySem L2
theorem excOf_at {a C : Addr} {d : Option Addr} {M : Mp} (h : M a = some (.exo C d)) (hd : ∀ p, d = some p → ∃ fs, M p = some (.exd fs)) : excOf (.ref a) M = some C := by
  unfold excOf
  cases d with
  | none => simp only [h]
  | some p =>
    obtain ⟨fs, e⟩ := hd p rfl
    simp only [h, e]
theorem isaE_yes {ys ns : List Addr} {C a : Addr} {d : Option Addr} {M : Mp} (h : M a = some (.exo C d)) (hd : ∀ p, d = some p → ∃ fs, M p = some (.exd fs)) (hy : C ∈ ys) : isaE ys ns (.ref a) M = some true := by
  unfold isaE
  rw [excOf_at h hd]
  exact if_pos hy
end DL
local macro_rules | `(tactic| simp only [wXX]) => `(tactic| simp only [DL.Ss.wp, DL.S.wp, DL.E.wp, DL.E.wpT, DL.Es.wp, DL.Es.wpV, DL.Es.wpT, DL.Oe.wpO, DL.Oe.wpT, DL.Wk.wp, DL.wSeq, DL.wRet, DL.wRetN, DL.wNext, DL.wNever, DL.wDrop, DL.wAsg, DL.wIfS, DL.wFor, DL.wPar, DL.wPar3, DL.wParJ, DL.wParK, DL.wStarA, DL.wUpdX, DL.wFldS, DL.wParF, DL.wSetI, DL.wSetK, DL.wDnew, DL.wDlit, DL.wMeth, DL.wBm, DL.wIxX, DL.wZipL, DL.wZipLT, DL.wItemsL, DL.wAndV, DL.wOrV, DL.wNotV, DL.wAnd, DL.wOr, DL.wNot, DL.wIfB, DL.wTest, DL.wTru, DL.wIf, DL.w1, DL.w2, DL.w3, DL.wVar, DL.wC, DL.wNil, DL.wCons, DL.wTup, DL.wLst, DL.wCall, DL.wCallK, DL.wO0, DL.wO1, DL.wSl, DL.wStep, DL.wStepV, DL.wLc, DL.wSc, DL.wISeq, DL.wIR1, DL.wIR2, DL.wIZip, DL.wIMix, DL.wIStr, DL.wIEn, DL.wDc, DL.DcK.emp, DL.Wk.wp, DL.binF, DL.cmpF, DL.cmpYF, DL.isaD, DL.negD, DL.Blt.spec, DL.Bm.spec, DL.Bm.ty, List.getElem?_cons_zero, List.getElem?_cons_succ, Option.some.injEq, exists_eq_left', exists_eq_left, exists_and_left, List.set_cons_zero, List.set_cons_succ, DL.asn_name, DL.asn_tup, DL.asns_nil, DL.asns_name, DL.wipeD, DL.tru_bl, DL.tru_int, DL.tru_non, DL.tru_tup, DL.bodyEnds, List.map_cons, List.map_nil, ↓reduceIte, Bool.false_eq_true, and_true, true_and, DL.D.str.injEq, DL.D.int.injEq, DL.D.ref.injEq, DL.D.tup.injEq, DL.D.bl.injEq, DL.add_ii, DL.add_ss, DL.add_tt, DL.mul_ii, DL.int_ii, DL.abs_i, DL.int_i, DL.int_b, DL.eq_ii, DL.eq_ss, DL.lt_ii, DL.le_ii, DL.gt_ii, DL.ge_ii, DL.ix_0, DL.ix_1, DL.ix_2, DL.len_tt, DL.tup_n, DL.XSs.wp, DL.XS.wp, DL.XE.wp, DL.wStX, DL.wCallA, DL.wSeqX, DL.wNextX, DL.wDropX, DL.wRetX, DL.wAsgX, DL.wIfX, DL.wCallX, DL.wCallVX, DL.wCallKX, DL.wMethX, DL.wRaise, DL.wTryK, DL.wParX, DL.wTup2X, DL.QE.wp, DL.QE.wpT, DL.QS.wp, DL.Bm.ty, DL.Bm.spec]) | `(tactic| simp only [wXX, $ts,*]) => `(tactic| simp only [DL.Ss.wp, DL.S.wp, DL.E.wp, DL.E.wpT, DL.Es.wp, DL.Es.wpV, DL.Es.wpT, DL.Oe.wpO, DL.Oe.wpT, DL.Wk.wp, DL.wSeq, DL.wRet, DL.wRetN, DL.wNext, DL.wNever, DL.wDrop, DL.wAsg, DL.wIfS, DL.wFor, DL.wPar, DL.wPar3, DL.wParJ, DL.wParK, DL.wStarA, DL.wUpdX, DL.wFldS, DL.wParF, DL.wSetI, DL.wSetK, DL.wDnew, DL.wDlit, DL.wMeth, DL.wBm, DL.wIxX, DL.wZipL, DL.wZipLT, DL.wItemsL, DL.wAndV, DL.wOrV, DL.wNotV, DL.wAnd, DL.wOr, DL.wNot, DL.wIfB, DL.wTest, DL.wTru, DL.wIf, DL.w1, DL.w2, DL.w3, DL.wVar, DL.wC, DL.wNil, DL.wCons, DL.wTup, DL.wLst, DL.wCall, DL.wCallK, DL.wO0, DL.wO1, DL.wSl, DL.wStep, DL.wStepV, DL.wLc, DL.wSc, DL.wISeq, DL.wIR1, DL.wIR2, DL.wIZip, DL.wIMix, DL.wIStr, DL.wIEn, DL.wDc, DL.DcK.emp, DL.Wk.wp, DL.binF, DL.cmpF, DL.cmpYF, DL.isaD, DL.negD, DL.Blt.spec, DL.Bm.spec, DL.Bm.ty, List.getElem?_cons_zero, List.getElem?_cons_succ, Option.some.injEq, exists_eq_left', exists_eq_left, exists_and_left, List.set_cons_zero, List.set_cons_succ, DL.asn_name, DL.asn_tup, DL.asns_nil, DL.asns_name, DL.wipeD, DL.tru_bl, DL.tru_int, DL.tru_non, DL.tru_tup, DL.bodyEnds, List.map_cons, List.map_nil, ↓reduceIte, Bool.false_eq_true, and_true, true_and, DL.D.str.injEq, DL.D.int.injEq, DL.D.ref.injEq, DL.D.tup.injEq, DL.D.bl.injEq, DL.add_ii, DL.add_ss, DL.add_tt, DL.mul_ii, DL.int_ii, DL.abs_i, DL.int_i, DL.int_b, DL.eq_ii, DL.eq_ss, DL.lt_ii, DL.le_ii, DL.gt_ii, DL.ge_ii, DL.ix_0, DL.ix_1, DL.ix_2, DL.len_tt, DL.tup_n, DL.XSs.wp, DL.XS.wp, DL.XE.wp, DL.wStX, DL.wCallA, DL.wSeqX, DL.wNextX, DL.wDropX, DL.wRetX, DL.wAsgX, DL.wIfX, DL.wCallX, DL.wCallVX, DL.wCallKX, DL.wMethX, DL.wRaise, DL.wTryK, DL.wParX, DL.wTup2X, DL.QE.wp, DL.QE.wpT, DL.QS.wp, DL.Bm.ty, DL.Bm.spec, $ts,*]) | `(tactic| simp only [wXX, $ts,*] at $h:ident) => `(tactic| simp only [DL.Ss.wp, DL.S.wp, DL.E.wp, DL.E.wpT, DL.Es.wp, DL.Es.wpV, DL.Es.wpT, DL.Oe.wpO, DL.Oe.wpT, DL.Wk.wp, DL.wSeq, DL.wRet, DL.wRetN, DL.wNext, DL.wNever, DL.wDrop, DL.wAsg, DL.wIfS, DL.wFor, DL.wPar, DL.wPar3, DL.wParJ, DL.wParK, DL.wStarA, DL.wUpdX, DL.wFldS, DL.wParF, DL.wSetI, DL.wSetK, DL.wDnew, DL.wDlit, DL.wMeth, DL.wBm, DL.wIxX, DL.wZipL, DL.wZipLT, DL.wItemsL, DL.wAndV, DL.wOrV, DL.wNotV, DL.wAnd, DL.wOr, DL.wNot, DL.wIfB, DL.wTest, DL.wTru, DL.wIf, DL.w1, DL.w2, DL.w3, DL.wVar, DL.wC, DL.wNil, DL.wCons, DL.wTup, DL.wLst, DL.wCall, DL.wCallK, DL.wO0, DL.wO1, DL.wSl, DL.wStep, DL.wStepV, DL.wLc, DL.wSc, DL.wISeq, DL.wIR1, DL.wIR2, DL.wIZip, DL.wIMix, DL.wIStr, DL.wIEn, DL.wDc, DL.DcK.emp, DL.Wk.wp, DL.binF, DL.cmpF, DL.cmpYF, DL.isaD, DL.negD, DL.Blt.spec, DL.Bm.spec, DL.Bm.ty, List.getElem?_cons_zero, List.getElem?_cons_succ, Option.some.injEq, exists_eq_left', exists_eq_left, exists_and_left, List.set_cons_zero, List.set_cons_succ, DL.asn_name, DL.asn_tup, DL.asns_nil, DL.asns_name, DL.wipeD, DL.tru_bl, DL.tru_int, DL.tru_non, DL.tru_tup, DL.bodyEnds, List.map_cons, List.map_nil, ↓reduceIte, Bool.false_eq_true, and_true, true_and, DL.D.str.injEq, DL.D.int.injEq, DL.D.ref.injEq, DL.D.tup.injEq, DL.D.bl.injEq, DL.add_ii, DL.add_ss, DL.add_tt, DL.mul_ii, DL.int_ii, DL.abs_i, DL.int_i, DL.int_b, DL.eq_ii, DL.eq_ss, DL.lt_ii, DL.le_ii, DL.gt_ii, DL.ge_ii, DL.ix_0, DL.ix_1, DL.ix_2, DL.len_tt, DL.tup_n, DL.XSs.wp, DL.XS.wp, DL.XE.wp, DL.wStX, DL.wCallA, DL.wSeqX, DL.wNextX, DL.wDropX, DL.wRetX, DL.wAsgX, DL.wIfX, DL.wCallX, DL.wCallVX, DL.wCallKX, DL.wMethX, DL.wRaise, DL.wTryK, DL.wParX, DL.wTup2X, DL.QE.wp, DL.QE.wpT, DL.QS.wp, DL.Bm.ty, DL.Bm.spec, $ts,*] at $h:ident)
namespace DL
open PySem L2
theorem Thg.tieK {M : Mp} {d : D} (h : Thg M d) : ∀ xs, d = .tup xs → ∀ x ∈ xs, TieK M x := fun xs e x hx => by
  subst e
  cases h with
  | tup h _ =>
    refine ⟨(h x hx).kns, fun ys e z hz => ?_⟩
    subst e
    cases h _ hx with
    | tup h2 _ =>
      cases h2 _ hz with
      | str _ h3 => exact h3
def netW (k l b : D) : Option Str := match k with
  | .int i => if isWh (.int i) 0 60 = true then (if tiesB i 3 700 l = true then (if tiesB i 2 400 b = true then none else some ("labels" : Str)) else some ("links" : Str)) else some ("knots" : Str)
  | _ => some ("knots" : Str)
theorem netW_int {i : Int} {l b : D} (h : isWh (.int i) 0 60 = true) : netW (.int i) l b = if tiesB i 3 700 l = true then (if tiesB i 2 400 b = true then none else some ("labels" : Str)) else some ("links" : Str) := by
  show (if isWh (.int i) 0 60 = true then _ else _) = _
  rw [if_pos h]
def SX_Net_init (c : Cs) : XSpec := fun ds M Q E => ∃ p k l b, ds = [.ref p, k, l, b] ∧ M p = some (.ins c.Net []) ∧ kn k M ∧ Thg M l ∧ Thg M b ∧ match netW k l b with
  | some f => ∀ M' q, Keep M M' → M' q = some (.exd [("field", .str f)]) → E (c.ex "NoNet") (some q) M'
  | none => ∀ M', (∀ a o, a ≠ p → M a = some o → M' a = some o) → M' p = some (.ins c.Net (netF k l b)) → Q .non M'
def SX_Net_K1_links_labels (c : Cs) : XSpec := makeX c.Net (SX_Net_init c) id
def irX_Net_init (c : Cs) : XSs := (.cons (.ife (.not_ (.call "is_whole" (S_is_whole c) (.cons (.var 1) (.cons (.int 0) (.cons (.glob "MOST_KNOTS" (.int 60)) .nil))))) (.cons (.raise1 "NoNet" (c.ex "NoNet") "field" (.str "knots")) .nil) .nil) (.cons (.ife (.not_ (.call "are_ties" (S_are_ties c) (.cons (.var 2) (.cons (.var 1) (.cons (.int 3) (.cons (.glob "MOST_LINKS" (.int 700)) .nil)))))) (.cons (.raise1 "NoNet" (c.ex "NoNet") "field" (.str "links")) .nil) .nil) (.cons (.ife (.not_ (.call "are_ties" (S_are_ties c) (.cons (.var 3) (.cons (.var 1) (.cons (.int 2) (.cons (.glob "MOST_LABELS" (.int 400)) .nil)))))) (.cons (.raise1 "NoNet" (c.ex "NoNet") "field" (.str "labels")) .nil) .nil) (.cons (.st (.fld (.var 0) c.Net "knots" (.var 1))) (.cons (.st (.fld (.var 0) c.Net "links" (.var 2))) (.cons (.st (.fld (.var 0) c.Net "labels" (.var 3))) .nil))))))
theorem useX_Net_init (c : Cs) (ds : List D) (M : Mp) (Q : DQ) (E : DXE) (z : szs ds) (zm : szM M) (h : SX_Net_init c ds M Q E) : (irX_Net_init c).wp (fun _ C d M1 => E C d M1) (bodyEnds Q) (startD N_Net_init ds) M := by
  obtain ⟨p, k, l, b, rfl, hp, hk, hl, hb, h⟩ := h
  show (irX_Net_init c).wp (fun _ C d M1 => E C d M1) (bodyEnds Q) [some (.ref p), some k, some l, some b] M
  simp only [wXX, irX_Net_init]
  have bad : ∀ f, netW k l b = some f → ∀ M1, Keep M M1 → ∃ d, [D.str f] = [d] ∧ ∀ q, M1 q = none → E (c.ex "NoNet") (some q) (up M1 q (.exd [("field", d)])) := fun f e M1 k1 => by
    rw [e] at h
    exact ⟨_, rfl, fun q hq => h _ q (k1.trans (.new hq)) up_same⟩
  refine ⟨_, 0, 60, rfl, hk, ?_⟩
  cases hw : isWh k 0 60 with
  | false =>
    have e : netW k l b = some ("knots" : Str) := by
      unfold netW
      split
      · rw [if_neg (by rw [hw]; exact Bool.false_ne_true)]
      · rfl
    simp only [wXX, Bool.not_false]
    exact bad _ e M (.refl M)
  | true =>
    obtain ⟨i, rfl⟩ := isWh_int hw
    simp only [wXX, Bool.not_true]
    refine ⟨l, i, 3, 700, rfl, by decide, hl.kn, hl.tieK, fun M1 k1 => ?_⟩
    have e0 := netW_int (l := l) (b := b) hw
    cases ht : tiesB i 3 700 l with
    | false =>
      simp only [wXX, Bool.not_false]
      exact bad _ (by rw [e0, ht]; rfl) M1 k1
    | true =>
      simp only [wXX, Bool.not_true]
      refine ⟨b, i, 2, 400, rfl, by decide, (hb.keep k1).kn, (hb.keep k1).tieK, fun M2 k2 => ?_⟩
      cases hu : tiesB i 2 400 b with
      | false =>
        simp only [wXX, Bool.not_false]
        exact bad _ (by rw [e0, ht, hu]; rfl) M2 (k1.trans k2)
      | true =>
        simp only [wXX, Bool.not_true]
        rw [e0, ht, hu, if_pos rfl, if_pos rfl] at h
        have hp2 : M2 p = some (.ins c.Net []) := k2 _ _ (k1 _ _ hp)
        refine ⟨_, hp2, by simp, _, up_same, by rw [put_knots]; simp, _, up_same, by rw [put_knots, put_links]; simp, ?_⟩
        rw [put_knots, put_links, put_labels]
        refine h _ (fun a o ha e => ?_) up_same
        rw [up_ne ha, up_ne ha, up_ne ha]
        exact k2 _ _ (k1 _ _ e)
end DL
namespace DL
open PySem L2
theorem isa_int_no {c : Cs} {d : D} {M : Mp} (hk : kn d M) (hn : ∀ i, d ≠ .int i) (hb : ∀ b, d ≠ .bl b) : isaB c "int" d M = some false := by
  cases d with
  | int i => exact (hn i rfl).elim
  | bl b => exact (hb b rfl).elim
  | ref a =>
    obtain ⟨k, hk⟩ := hk
    have hk' : kindO (M a) = some k := hk
    have : k = "list" ∨ k = "dict" := by
      unfold kindO at hk'
      split at hk' <;> first | (cases hk'; simp) | cases hk'
    show (kindO (M a)).map _ = _
    rw [hk']
    rcases this with rfl | rfl <;> decide
  | ty _ => obtain ⟨k, hk⟩ := hk; cases hk
  | _ => rfl
def S_l_is_number (_ : Cs) : Spec := fun ds M Q => ∃ d lo hi, ds = [d, .int lo, .int hi] ∧ kn d M ∧ Q (.bl (isWh d lo hi)) M
abbrev N_l_is_number : List Str := ["_law_thing", "_law_low", "_law_high"]
def ir_l_is_number (c : Cs) : Ss := (.cons (.ret (.bop .And (.cons (.isa (.var 0) (.bty "int") (isaB c "int")) (.cons (.not_ (.isa (.var 0) (.bty "bool") (isaB c "bool"))) (.cons (.chain .LtE .LtE (.var 1) (.var 0) (.var 2)) .nil))))) .nil)
theorem wp_l_is_number (c : Cs) {d : D} {lo hi : Int} {M : Mp} {Q : DQ} (hk : kn d M) (h : Q (.bl (isWh d lo hi)) M) :
    (ir_l_is_number c).wp (bodyEnds Q) [some d, some (.int lo), some (.int hi)] M := by
  simp only [wX, ir_l_is_number]
  by_cases hi' : ∃ i, d = .int i
  · obtain ⟨i, rfl⟩ := hi'
    refine ⟨true, rfl, ?_⟩
    rw [if_pos rfl]
    refine ⟨false, rfl, ?_⟩
    rw [if_pos (by simp)]
    have e : isWh (.int i) lo hi = (decide (lo ≤ i) && decide (i ≤ hi)) := rfl
    rw [e] at h
    refine ord_int ⟨_, rfl, ?_⟩
    by_cases h0 : lo ≤ i
    · rw [if_pos (by simp [h0])]
      refine ord_int ?_
      rw [decide_eq_true h0, Bool.true_and] at h
      exact h
    · rw [if_neg (by simp [h0])]
      rw [decide_eq_false h0, Bool.false_and] at h
      exact h
  · by_cases hb : ∃ b, d = .bl b
    · obtain ⟨b, rfl⟩ := hb
      refine ⟨true, rfl, ?_⟩
      rw [if_pos rfl]
      refine ⟨true, rfl, ?_⟩
      rw [if_neg (by simp)]
      exact h
    · refine ⟨false, isa_int_no hk (fun i e => hi' ⟨i, e⟩) (fun b e => hb ⟨b, e⟩), ?_⟩
      rw [if_neg (by simp)]
      have e : isWh d lo hi = false := by
        cases d with
        | int i => exact (hi' ⟨i, rfl⟩).elim
        | _ => rfl
      rw [e] at h
      exact h
theorem use_l_is_number (c : Cs) (ds : List D) (M : Mp) (Q : DQ) (z : szs ds) (zm : szM M) (h : S_l_is_number c ds M Q) : (ir_l_is_number c).wp (bodyEnds Q) (startD N_l_is_number ds) M := by
  obtain ⟨d, lo, hi, rfl, hk, h⟩ := h
  exact wp_l_is_number c hk h
def S_l_is_called (_ : Cs) : Spec := fun ds M Q => ∃ d, ds = [d] ∧ kn d M ∧ (∀ x, d = .str x → x.length ≤ sizeLine) ∧ ∀ M', Keep M M' → Q (.bl (isNm d)) M'
abbrev N_l_is_called : List Str := ["_law_thing", "_law_letter"]
def ir_l_is_called (c : Cs) : Ss := (.cons (.ife (.bop .Or (.cons (.not_ (.isa (.var 0) (.bty "str") (isaB c "str"))) (.cons (.not_ (.chain .LtE .LtE (.int 1) (.bcall .len (.cons (.var 0) .nil)) (.int 6))) .nil))) (.cons (.ret (.bl false)) .nil) .nil) (.cons (.ret (.bcall .all (.cons (.lc [("_law_letter", 1)] (.name 1) (.str (.var 0)) .none (.cmp .In (.var 1) (.str "abcdefghijklmnopqrstuvwxyz"))) .nil))) .nil))
theorem wp_l_is_called (c : Cs) {d : D} {M : Mp} {Q : DQ} (hk : kn d M) (hl : ∀ x, d = .str x → x.length ≤ sizeLine) (h : ∀ M', Keep M M' → Q (.bl (isNm d)) M') : (ir_l_is_called c).wp (bodyEnds Q) [some d, none] M := by
  simp only [wX, ir_l_is_called]
  cases d with
  | ty n => exact (kn_ty hk).elim
  | ref a => exact ⟨false, isaB_ref hk (by decide) (by decide), by simpa [isNm] using h M (.refl M)⟩
  | str x =>
    have hx := hl x rfl
    refine ⟨true, rfl, ?_⟩
    rw [if_neg (by simp)]
    refine ⟨_, _, rfl, ⟨hx, rfl⟩, ord_int ⟨_, rfl, ?_⟩⟩
    by_cases h1 : 1 ≤ x.length
    rotate_left
    · rw [if_neg (by simp; omega), if_pos (by rfl)]
      have := h M (.refl M)
      rwa [show isNm (.str x) = false by simp [isNm, nameS, h1]] at this
    rw [if_pos (by simp; omega)]
    refine ord_int ⟨_, rfl, ?_⟩
    by_cases h2 : x.length ≤ 6
    rotate_left
    · rw [if_pos (by simp; omega)]
      have := h M (.refl M)
      rwa [show isNm (.str x) = false by simp [isNm, nameS, h2]] at this
    rw [if_neg (by simp; omega)]
    have hz : (strI x).length ≤ sizeLine := by
      have e : (strI x).length = x.length := by unfold strI; rw [List.length_map, Array.length_toList]; rfl
      rw [e]; exact hx
    refine ⟨x, rfl, hz, ?_⟩
    have e : isNm (.str x) = (strI x).all fun d => match d with | .str y => y.cps.toList.all isLetter | _ => false := by
      show nameS x = _
      unfold nameS strI
      rw [decide_eq_true h1, decide_eq_true h2, List.all_map]
      show x.cps.toList.all isLetter = _
      congr 1
      funext cc
      simp
    refine all_go (T := ⟨strI x, fun _ => True⟩) (fun d => match d with | .str y => y.cps.toList.all isLetter | _ => false) (fun _ _ => trivial) (fun y hy M2 k h2 hkk => ⟨_, rfl, ?_⟩) (fun M2 h2 => by rw [← e]; exact h M2 h2)
    obtain ⟨cc, _, rfl⟩ := List.mem_map.mp hy
    simp only [wX]
    refine .inr ⟨cc, _, rfl, rfl, ?_⟩
    have q := hkk M2 h2
    show k (.bl (decide (cc ∈ _))) M2
    rw [letters_mem]
    simpa using q
  | _ => exact ⟨false, rfl, by simpa [isNm] using h M (.refl M)⟩
theorem use_l_is_called (c : Cs) (ds : List D) (M : Mp) (Q : DQ) (z : szs ds) (zm : szM M) (h : S_l_is_called c ds M Q) : (ir_l_is_called c).wp (bodyEnds Q) (startD N_l_is_called ds) M := by
  obtain ⟨d, rfl, hk, hl, h⟩ := h
  exact wp_l_is_called c hk hl h
def upAt (xs : List D) (x : D) : Bool := match x with
  | .int i => (match xs[i.toNat]?, xs[i.toNat + 1]? with
    | some a, some b => ltP a b
    | _, _ => true)
  | _ => true
theorem upAt_nat (xs : List D) (n : Nat) : upAt xs (.int (n : Int)) = (match xs[n]?, xs[n + 1]? with
    | some a, some b => ltP a b
    | _, _ => true) := rfl
theorem ris_range : ∀ xs : List D, ((List.range (xs.length - 1)).all fun n => upAt xs (.int (n : Nat))) = risB xs
  | [] => rfl
  | [x] => rfl
  | x :: y :: r => by
    have ih := ris_range (y :: r)
    rw [show (x :: y :: r).length - 1 = ((y :: r).length - 1) + 1 by simp, List.range_succ_eq_map, List.all_cons, List.all_map]
    show (upAt (x :: y :: r) (.int ((0 : Nat) : Int)) && _) = (ltP x y && risB (y :: r))
    rw [← ih]
    congr 1
theorem cmpL_at : ∀ {xs : List D} {i : Nat} {a b : D}, cmpL xs → xs[i]? = some a → xs[i + 1]? = some b → cmpP a b
  | [], _, _, _, _, h, _ => by simp at h
  | [x], i, a, b, _, _, h => by simp at h
  | x :: y :: r, 0, a, b, h, h1, h2 => by
    simp at h1 h2
    subst h1 h2
    exact h.1
  | x :: y :: r, i + 1, a, b, h, h1, h2 => by
    rw [List.getElem?_cons_succ] at h1 h2
    exact cmpL_at h.2 h1 h2
def S_l_rises (_ : Cs) : Spec := fun ds M Q => ∃ xs, ds = [.tup xs] ∧ cmpL xs ∧ xs.length ≤ 100000 ∧ ∀ M', Keep M M' → Q (.bl (risB xs)) M'
abbrev N_l_rises : List Str := ["_law_some", "_law_at"]
def ir_l_rises (c : Cs) : Ss := (.cons (.ret (.bcall .all (.cons (.lc [("_law_at", 1)] (.name 1) (.r1 (.bin .Sub (.bcall .len (.cons (.var 0) .nil)) (.int 1))) .none (.cmp .Lt (.idx (.var 0) (.var 1)) (.idx (.var 0) (.bin .Add (.var 1) (.int 1))))) .nil))) .nil)
theorem use_l_rises (c : Cs) (ds : List D) (M : Mp) (Q : DQ) (z : szs ds) (zm : szM M) (h : S_l_rises c ds M Q) : (ir_l_rises c).wp (bodyEnds Q) (startD N_l_rises ds) M := by
  obtain ⟨xs, rfl, hc, hz, h⟩ := h
  show (ir_l_rises c).wp (bodyEnds Q) [some (.tup xs), none] M
  simp only [wX, ir_l_rises]
  refine ⟨by unfold small62; omega, by rw [rng_len, sizeLine_eq]; omega, ?_⟩
  have er : (rngI 0 ((xs.length : Int) - 1)).all (upAt xs) = risB xs := by
    rw [← ris_range xs]
    unfold rngI
    rw [List.all_map, show ((xs.length : Int) - 1 - 0).toNat = xs.length - 1 by omega]
    congr 1
    funext n
    simp
  refine all_go (T := ⟨rngI 0 ((xs.length : Int) - 1), fun _ => True⟩) (upAt xs) (fun _ _ => trivial) (fun y hy M2 k h2 hkk => ?_) (fun M2 h2 => by rw [er]; exact h M2 h2)
  obtain ⟨i, rfl, i0, i1⟩ := rng_mem hy
  obtain ⟨n, rfl⟩ := Int.eq_ofNat_of_zero_le i0
  have hn : n + 1 < xs.length := by omega
  have ha : xs[n]? = some xs[n] := List.getElem?_eq_getElem (by omega)
  have hb : xs[n + 1]? = some xs[n + 1] := List.getElem?_eq_getElem hn
  refine ⟨_, asn_name, ?_⟩
  simp only [wX, List.set_cons_succ, List.set_cons_zero]
  refine ix_t n ha (ix_t (n + 1) hb (lt_plain (cmpL_at hc ha hb) ?_))
  have q := hkk M2 h2
  rwa [upAt_nat, ha, hb] at q
end DL
namespace DL
open PySem L2
def S_l_are_ties (_ : Cs) : Spec := fun ds M Q => ∃ d knots size most, ds = [d, .int knots, .int size, .int most] ∧ 1 ≤ size ∧ Thg M d ∧ ∀ M', Keep M M' → Q (.bl (tiesB knots size most d)) M'
abbrev N_l_are_ties : List Str := ["_law_thing", "_law_many", "_law_size", "_law_most", "_law_one", "_law_spot"]
def ir_l_are_ties (c : Cs) : Ss := (.cons (.ife (.bop .Or (.cons (.not_ (.isa (.var 0) (.bty "tuple") (isaB c "tuple"))) (.cons (.cmp .Gt (.bcall .len (.cons (.var 0) .nil)) (.var 3)) .nil))) (.cons (.ret (.bl false)) .nil) .nil) (.cons (.for_ (.name 4) (.seq (.var 0)) (.cons (.ife (.bop .Or (.cons (.not_ (.isa (.var 4) (.bty "tuple") (isaB c "tuple"))) (.cons (.cmp .NotEq (.bcall .len (.cons (.var 4) .nil)) (.var 2)) (.cons (.not_ (.call "_law_is_called" (S_l_is_called c) (.cons (.idx (.var 4) (.int 0)) .nil))) .nil)))) (.cons (.ret (.bl false)) .nil) .nil) (.cons (.ife (.not_ (.bcall .all (.cons (.lc [("_law_spot", 5)] (.name 5) (.seq (.slc (.var 4) (.some (.int 1)) .none)) .none (.call "_law_is_number" (S_l_is_number c) (.cons (.var 5) (.cons (.int 0) (.cons (.bin .Sub (.var 1) (.int 1)) .nil))))) .nil))) (.cons (.ret (.bl false)) .nil) .nil) .nil))) (.cons (.ret (.call "_law_rises" (S_l_rises c) (.cons (.var 0) .nil))) .nil)))
theorem wp_l_are_ties (c : Cs) {d : D} {knots size most : Int} {M : Mp} {Q : DQ} (hz : sz d) (h1 : 1 ≤ size) (hk : kn d M) (ht : ∀ xs, d = .tup xs → xs.length ≤ 100000 ∧ ∀ x ∈ xs, TieK M x) (h : ∀ M', Keep M M' → Q (.bl (tiesB knots size most d)) M') :
    (ir_l_are_ties c).wp (bodyEnds Q) [some d, some (.int knots), some (.int size), some (.int most), none, none] M := by
  simp only [wX, ir_l_are_ties]
  cases d with
  | ty n => exact (kn_ty hk).elim
  | ref a => exact ⟨false, isaB_ref hk (by decide) (by decide), by simpa [tiesB] using h M (.refl M)⟩
  | tup xs =>
    have hz' := (sz_tup hz).1
    have zxs := (ht xs rfl).1
    refine ⟨true, rfl, ?_⟩
    simp only [Bool.not_true, Bool.false_eq_true, if_false]
    refine len_t (ord_int ⟨_, rfl, ?_⟩)
    have eB : tiesB knots size most (.tup xs) = (decide ((xs.length : Int) ≤ most) && ((xs.all fun x => tieB knots size x) && risB xs)) := rfl
    by_cases hm : most < (xs.length : Int)
    · rw [if_pos (decide_eq_true hm)]
      have := h M (.refl M)
      rwa [eB, decide_eq_false (by omega), Bool.false_and] at this
    rw [if_neg (by simp; omega)]
    rw [decide_eq_true (by omega : (xs.length : Int) ≤ most), Bool.true_and] at eB
    have bad : ∀ x ∈ xs, tieB knots size x = false → ∀ M', Keep M M' → Q (.bl false) M' := fun x hx e M' k' => by
      have := h M' k'
      rwa [eB, show (xs.all fun x => tieB knots size x) = false from List.all_eq_false.mpr ⟨x, hx, by rw [e]; exact Bool.false_ne_true⟩, Bool.false_and] at this
    refine ⟨_, seqT_t, ?_⟩
    refine forGo_inv (T := ⟨xs, fun _ => True⟩) (fun done ρ M' => Keep M M' ∧ (∀ x ∈ done, tieB knots size x = true) ∧ ∃ v, ρ = [some (.tup xs), some (.int knots), some (.int size), some (.int most), v, none]) (fun _ _ _ _ => trivial) xs [] _ M ⟨.refl M, (fun _ h => nomatch h), none, rfl⟩ (fun x hx done ρ M1 k hJ hk => ?_) fun ρ M1 hJ => ?_
    · obtain ⟨k1, hd, v, rfl⟩ := hJ
      have tk := ((ht xs rfl).2 x hx).keep k1
      refine ⟨_, rfl, ?_⟩
      simp only [wX]
      have ok : tieB knots size x = true → k [some (.tup xs), some (.int knots), some (.int size), some (.int most), some x, none] M1 := fun e => hk _ M1 ⟨k1, fun y hy => by
        rcases List.mem_append.mp hy with hy | hy
        · exact hd y hy
        · rw [List.mem_singleton.mp hy]; exact e, _, rfl⟩
      cases x with
      | ty n => exact (kn_ty tk.kn.1).elim
      | ref a => exact ⟨false, isaB_ref tk.kn.1 (by decide) (by decide), by simpa using bad _ hx rfl M1 k1⟩
      | tup ys =>
        refine ⟨true, rfl, ?_⟩
        simp only [Bool.not_true, Bool.false_eq_true, if_false]
        refine len_t (eq_int ⟨_, rfl, ?_⟩)
        by_cases hs : (ys.length : Int) = size
        rotate_left
        · simp only [decide_eq_false hs, Bool.not_false, if_true]
          refine bad _ hx ?_ M1 k1
          cases ys with
          | nil => rfl
          | cons y r => show (decide _ && _) = false; rw [decide_eq_false hs, Bool.false_and]
        simp only [decide_eq_true hs, Bool.not_true, Bool.false_eq_true, if_false, if_true]
        cases ys with
        | nil => simp at hs; omega
        | cons y r =>
          have eT : tieB knots size (.tup (y :: r)) = (isNm y && areWh (.tup r) 0 (knots - 1)) := by
            show (decide _ && _) = _
            rw [decide_eq_true hs, Bool.true_and]
          refine ix_t 0 rfl ⟨_, rfl, tk.kn.2 _ rfl y (by simp), fun z e => tk.st _ rfl z (by rw [e]; simp), fun M2 h2 => ?_⟩
          cases hn : isNm y with
          | false =>
            simp only [wX, Bool.not_false]
            exact bad _ hx (by rw [eT, hn, Bool.false_and]) M2 (k1.trans h2)
          | true =>
            simp only [wX, Bool.not_true]
            have hzr : (List.drop 1 (y :: r)).length ≤ sizeLine := by
              have := (sz_tup ((sz_tup hz).2 _ hx)).1
              simp at this ⊢
              omega
            refine slD_t (cut_one _) ⟨_, seqT_t, hzr, ?_⟩
            refine all_go (T := ⟨List.drop 1 (y :: r), fun _ => True⟩) (fun x => isWh x 0 (knots - 1)) (fun _ _ => trivial) (fun z hz M3 kk h3 hkk => ⟨_, asn_name, ?_⟩) fun M3 h3 => ?_
            · simp only [wX, List.set_cons_succ, List.set_cons_zero]
              exact ⟨z, 0, knots - 1, rfl, ((tk.kn.2 _ rfl z (List.mem_of_mem_drop hz)).keep h2).keep h3, hkk M3 h3⟩
            · change _
              rw [show (List.drop 1 (y :: r)).all (fun x => isWh x 0 (knots - 1)) = areWh (.tup (List.drop 1 (y :: r))) 0 (knots - 1) from rfl]
              cases hw : areWh (.tup (List.drop 1 (y :: r))) 0 (knots - 1) with
              | false =>
                simp only [wX, Bool.not_false]
                exact bad _ hx (by rw [eT, show areWh (.tup r) 0 (knots - 1) = false from hw, Bool.and_false]) M3 (k1.trans (h2.trans h3))
              | true =>
                simp only [wX, Bool.not_true]
                exact hk _ M3 ⟨k1.trans (h2.trans h3), fun y' hy => by
                  rcases List.mem_append.mp hy with hy | hy
                  · exact hd y' hy
                  · rw [List.mem_singleton.mp hy, eT, hn, show areWh (.tup r) 0 (knots - 1) = true from hw]; rfl, _, rfl⟩
      | _ => exact ⟨false, rfl, by simpa using bad _ hx rfl M1 k1⟩
    · obtain ⟨k1, hd, v, rfl⟩ := hJ
      have hall : (xs.all fun x => tieB knots size x) = true := List.all_eq_true.mpr fun x hx => hd x (by simpa using hx)
      simp only [wX]
      refine ⟨xs, rfl, cmp_ties hall, zxs, fun M2 h2 => ?_⟩
      have := h M2 (k1.trans h2)
      rwa [eB, hall, Bool.true_and] at this
  | _ => exact ⟨false, rfl, by simpa [tiesB] using h M (.refl M)⟩
theorem use_l_are_ties (c : Cs) (ds : List D) (M : Mp) (Q : DQ) (z : szs ds) (zm : szM M) (h : S_l_are_ties c ds M Q) : (ir_l_are_ties c).wp (bodyEnds Q) (startD N_l_are_ties ds) M := by
  obtain ⟨d, knots, size, most, rfl, h1, ht, h⟩ := h
  exact wp_l_are_ties c (szs_0 z) h1 ht.kn (fun xs e => ⟨by subst e; cases ht with | tup _ h => exact h, ht.tieK xs e⟩) h
def optS : Option Str → D
  | some f => .str f
  | none => .non
def S_l_due (_ : Cs) : Spec := fun ds M Q => ∃ k l b, ds = [k, l, b] ∧ Thg M k ∧ Thg M l ∧ Thg M b ∧ ∀ M', Keep M M' → Q (optS (netW k l b)) M'
abbrev N_l_due : List Str := ["_law_many", "_law_found", "_law_named"]
def ir_l_due (c : Cs) : Ss := (.cons (.ife (.not_ (.call "_law_is_number" (S_l_is_number c) (.cons (.var 0) (.cons (.int 0) (.cons (.int 60) .nil))))) (.cons (.ret (.str "knots")) .nil) .nil) (.cons (.ife (.not_ (.call "_law_are_ties" (S_l_are_ties c) (.cons (.var 1) (.cons (.var 0) (.cons (.int 3) (.cons (.int 700) .nil)))))) (.cons (.ret (.str "links")) .nil) .nil) (.cons (.ret (.ife (.call "_law_are_ties" (S_l_are_ties c) (.cons (.var 2) (.cons (.var 0) (.cons (.int 2) (.cons (.int 400) .nil))))) .non (.str "labels"))) .nil)))
theorem use_l_due (c : Cs) (ds : List D) (M : Mp) (Q : DQ) (z : szs ds) (zm : szM M) (h : S_l_due c ds M Q) : (ir_l_due c).wp (bodyEnds Q) (startD N_l_due ds) M := by
  obtain ⟨k, l, b, rfl, hk, hl, hb, h⟩ := h
  show (ir_l_due c).wp (bodyEnds Q) [some k, some l, some b] M
  simp only [wX, ir_l_due]
  refine ⟨_, 0, 60, rfl, hk.kn, ?_⟩
  cases hw : isWh k 0 60 with
  | false =>
    have e : netW k l b = some ("knots" : Str) := by
      unfold netW
      split
      · rw [if_neg (by rw [hw]; exact Bool.false_ne_true)]
      · rfl
    rw [e] at h
    simp only [wX, Bool.not_false]
    exact h M (.refl M)
  | true =>
    obtain ⟨i, rfl⟩ := isWh_int hw
    rw [netW_int hw] at h
    simp only [wX, Bool.not_true]
    refine ⟨l, i, 3, 700, rfl, by decide, hl, fun M1 k1 => ?_⟩
    cases ht : tiesB i 3 700 l with
    | false =>
      rw [ht] at h
      simp only [wX, Bool.not_false]
      exact h M1 k1
    | true =>
      rw [ht, if_pos rfl] at h
      simp only [wX, Bool.not_true]
      refine ⟨b, i, 2, 400, rfl, by decide, hb.keep k1, fun M2 k2 => ?_⟩
      have h2 := h M2 (k1.trans k2)
      cases hu : tiesB i 2 400 b with
      | false => rw [hu] at h2; simp only [wX]; exact h2
      | true => rw [hu] at h2; simp only [wX]; exact h2
end DL
namespace DL
open PySem L2
theorem ne_sameX {a : Str} {M : Mp} {Q : DQ} (q : Q (.bl false) M) : eqD true (.str a) (.str a) M Q := .inr ⟨a, a, rfl, rfl, by simpa using q⟩
theorem eq_sameX {a : Str} {M : Mp} {Q : DQ} (q : Q (.bl true) M) : eqD false (.str a) (.str a) M Q := .inr ⟨a, a, rfl, rfl, by simpa using q⟩
theorem netW_none {k l b : D} (h : netW k l b = none) : ∃ i, k = .int i ∧ 0 ≤ i ∧ i ≤ 60 := by
  unfold netW at h
  split at h
  · rename_i i
    cases hw : isWh (.int i) 0 60 with
    | false => rw [hw] at h; cases h
    | true =>
      have h1 : (decide (0 ≤ i) && decide (i ≤ 60)) = true := hw
      rw [Bool.and_eq_true, decide_eq_true_eq, decide_eq_true_eq] at h1
      exact ⟨i, rfl, h1⟩
  · cases h
def S_l_right (c : Cs) : Spec := fun ds M Q => ∃ k l b, ds = [k, l, b] ∧ Thg M k ∧ Thg M l ∧ Thg M b ∧ RP M (.tup [k, l, b]) ∧ ∀ M', Keep M M' → Q (.bl true) M'
abbrev N_l_right : List Str := ["_law_many", "_law_found", "_law_named", "error", "_law_held", "_law_due_here", "_law_told", "_law_caught"]
def ir_l_right (c : Cs) : XSs := (.cons (.st (.asg (.tup (.cons (.name 4) (.cons (.name 5) (.cons (.name 6) (.cons (.name 7) .nil))))) (.tup (.cons (.bcall .repr (.cons (.tup (.cons (.var 0) (.cons (.var 1) (.cons (.var 2) .nil)))) .nil)) (.cons (.call "_law_due" (S_l_due c) (.cons (.var 0) (.cons (.var 1) (.cons (.var 2) .nil)))) (.cons .non (.cons .non .nil))))))) (.cons (.tryK (.cons (.asg (.name 6) (.callK "Net" (SX_Net_K1_links_labels c) (.cons (.var 0) .nil) ["links", "labels"] (.cons (.var 1) (.cons (.var 2) .nil)))) .nil) "HouseError" (c.ex "HouseError") (exck [c.ex "NoNet"] []) 3 7 (.var 3)) (.cons (.st (.ife (.cmp .NotEq (.bcall .repr (.cons (.tup (.cons (.var 0) (.cons (.var 1) (.cons (.var 2) .nil)))) .nil)) (.var 4)) (.cons (.ret (.bl false)) .nil) .nil)) (.cons (.st (.ife (.cmp .IsNot (.var 5) .non) (.cons (.ret (.bop .And (.cons (.isa (.var 7) (.own "NoNet" (c.ex "NoNet")) (isaE [c.ex "NoNet"] [])) (.cons (.isa (.var 7) (.bty "ValueError") (isaE [c.ex "NoNet"] [])) (.cons (.cmp .Eq (.xf (.var 7) (c.ex "NoNet") "field") (.var 5)) .nil))))) .nil) .nil)) (.cons (.st (.ife (.cmp .Is (.var 6) .non) (.cons (.ret (.bl false)) .nil) .nil)) (.cons (.st (.ret (.bop .And (.cons (.cmp .Eq (.bcall .repr (.cons (.tup (.cons (.fld (.var 6) c.Net "knots") (.cons (.fld (.var 6) c.Net "links") (.cons (.fld (.var 6) c.Net "labels") .nil)))) .nil)) (.var 4)) (.cons (.cmp .Eq (.lenO c.Net (S_Net_len_ c) (.var 6)) (.var 0)) .nil))))) .nil))))))
theorem use_l_right (c : Cs) (ds : List D) (M : Mp) (Q : DQ) (z : szs ds) (zm : szM M) (h : S_l_right c ds M Q) : (ir_l_right c).wp noX (bodyEnds Q) (startD N_l_right ds) M := by
  obtain ⟨k, l, b, rfl, hk, hl, hb, hr, h⟩ := h
  show (ir_l_right c).wp noX (bodyEnds Q) [some k, some l, some b, none, none, none, none, none] M
  simp only [wXX, ir_l_right]
  obtain ⟨t, hr⟩ := hr
  refine ⟨by simp [sizeLine_eq], hr M _ (.refl M) ⟨k, l, b, rfl, hk, hl, hb, fun M1 k1 => ?_⟩⟩
  refine ⟨by simp [sizeLine_eq], fun x hx => ?_⟩
  have kx : Keep M1 (up M1 x (.ins c.Net [])) := .new hx
  have k1x := k1.trans kx
  refine ⟨x, k, l, b, rfl, up_same, (hk.keep k1x).kn, hl.keep k1x, hb.keep k1x, ?_⟩
  cases hw : netW k l b with
  | none =>
    obtain ⟨i, rfl, i0, i1⟩ := netW_none hw
    refine fun M2 k2 hx2 => ⟨rfl, by simp [sizeLine_eq], ?_⟩
    have k02 : Keep M M2 := fun a o e => by
      have e1 := k1 _ _ e
      have ne : a ≠ x := fun z => by subst z; rw [hx] at e1; cases e1
      exact k2 a o ne (by rw [up_ne ne]; exact e1)
    refine hr M2 _ k02 (ne_sameX ⟨_, rfl, ?_⟩)
    rw [if_neg (by simp)]
    refine .inl ⟨rfl, _, rfl, ?_⟩
    rw [if_neg (by simp [optS, negB, isNon])]
    refine .inl ⟨rfl, _, rfl, ?_⟩
    rw [if_neg (by simp [negB, isNon])]
    refine ⟨x, _, _, rfl, hx2, look_knots, x, _, _, rfl, hx2, look_links, x, _, _, rfl, hx2, look_labels, by simp [sizeLine_eq], hr M2 _ k02 (eq_sameX ⟨true, tru_bl.mpr rfl, ?_⟩)⟩
    rw [if_pos rfl]
    refine ⟨x, _, rfl, hx2, x, i, l, b, rfl, hx2, i0, i1, fun M3 k3 => ⟨i, rfl, i0, by omega, eq_int ?_⟩⟩
    simpa using h _ (k02.trans k3)
  | some f =>
    refine fun M2 q k2 hq => ⟨true, by simp [exck], fun _ a ha => ⟨by simp [sizeLine_eq], ?_⟩, fun z => by cases z⟩
    have ka : Keep M2 (up M2 a (.exo (c.ex "NoNet") (some q))) := .new ha
    have k02 := k1x.trans (k2.trans ka)
    refine hr _ _ k02 (ne_sameX ⟨_, rfl, ?_⟩)
    rw [if_neg (by simp)]
    refine .inl ⟨rfl, _, rfl, ?_⟩
    rw [if_pos (by simp [optS, negB, isNon])]
    have hd : ∀ p, some q = some p → ∃ fs, up M2 a (.exo (c.ex "NoNet") (some q)) p = some (.exd fs) := fun p e => by
      injection e with e
      subst e
      exact ⟨_, ka _ _ hq⟩
    refine ⟨true, isaE_yes up_same hd (by simp), ?_⟩
    rw [if_pos rfl]
    refine ⟨true, isaE_yes up_same hd (by simp), ?_⟩
    rw [if_pos rfl]
    refine ⟨a, q, _, _, rfl, up_same, ka _ _ hq, rfl, ?_⟩
    exact eq_sameX (h _ k02)
end DL
namespace DL
open PySem L2
def S_Net (c : Cs) : Spec := makeS c.Net (S_Net_init c) fun ds => ds ++ [.tup [], .tup []]
def TieE (x : D) : Prop := ∃ nm is, x = tie nm is ∧ nameS nm = true ∧ (∀ i ∈ is, 0 ≤ i ∧ i < 1000) ∧ is.length ≤ 2
theorem TieE.thg {M : Mp} {x : D} (h : TieE x) : Thg M x := by
  obtain ⟨nm, is, rfl, hn, hi, hl⟩ := h
  refine .tup (fun d hd => ?_) (by rw [List.length_cons, List.length_map]; omega)
  rcases List.mem_cons.mp hd with rfl | hd
  · exact .str (lay_name hn) (nameS_len hn)
  · obtain ⟨i, _, rfl⟩ := List.mem_map.mp hd
    exact .int i
theorem TieE.told {x : D} (h : TieE x) : Told x 1 200 := by
  obtain ⟨nm, is, rfl, hn, hi, hl⟩ := h
  refine Told.upto (h := 0) (s := 62) (N := 3) (fun d hd => ?_) (by rw [List.length_cons, List.length_map]; omega) (by decide)
  rcases List.mem_cons.mp hd with rfl | hd
  · exact told_name hn
  · obtain ⟨i, hm, rfl⟩ := List.mem_map.mp hd
    have := hi i hm
    exact (told_int (by omega)).mono (Nat.le_refl _) (by decide)
def TiesE (d : D) : Prop := ∃ xs, d = .tup xs ∧ (∀ x ∈ xs, TieE x) ∧ xs.length ≤ 1000
theorem TiesE.thg {M : Mp} {d : D} (h : TiesE d) : Thg M d := by
  obtain ⟨xs, rfl, h, hl⟩ := h
  exact .tup (fun x hx => (h x hx).thg) (by omega)
theorem TiesE.told {d : D} (h : TiesE d) : Told d 2 210000 := by
  obtain ⟨xs, rfl, h, hl⟩ := h
  exact Told.upto (h := 1) (s := 200) (N := 1000) (fun x hx => (h x hx).told) hl (by decide)
theorem tiesE_cut {xs : List D} (h : ∀ x ∈ xs, TieE x) (hl : xs.length ≤ 1000) (lo hi : Option Int) : TiesE (.tup (cutL xs lo hi)) :=
  ⟨_, rfl, fun x hx => h x ((cut_sub xs lo hi).subset hx), Nat.le_trans (cut_sub xs lo hi).length_le hl⟩
theorem edge_right {c : Cs} {k : Int} {l b : D} {M : Mp} {Q : DQ} (hk : 0 ≤ k ∧ k < 1000) (hl : TiesE l) (hb : TiesE b) (h : ∀ M', Keep M M' → Q (.bl true) M') : S_l_right c [.int k, l, b] M Q := by
  refine ⟨.int k, l, b, rfl, .int k, hl.thg, hb.thg, ?_, h⟩
  have t := ((told_int (i := k) (by omega)).mono (show 0 ≤ 2 by decide) (Nat.le_refl _)).three hl.told hb.told
  exact ⟨_, fun M' Q _ q => told_repr t (by decide) (by rw [sizeLine_eq]; decide) q⟩
theorem cut_tuple {p : Addr} {xs : List D} {lo hi : Option Int} {M : Mp} {K : DQ} (hp : M p = some (.lst xs)) (h : ∀ M', Keep M M' → K (.tup (cutL xs lo hi)) M') : slD (.ref p) lo hi M fun d M1 => tupleS [d] M1 K := ⟨xs, hp, fun a ha => ⟨_, _, rfl, .inr ⟨a, rfl, up_same⟩, h _ (.new ha)⟩⟩
def S_l_edges_right (c : Cs) : Spec := fun ds M Q => ds = [] ∧ ∀ M', Keep M M' → Q (.bl true) M'
abbrev N_l_edges_right : List Str := ["_law_every", "_law_one", "_law_marks", "_law_letter", "_law_other", "_law_spot"]
def ir_l_edges_right (c : Cs) : Ss := (.cons (.asg (.name 0) (.lst .nil)) (.cons (.for_ (.name 1) (.r1 (.int 30)) (.cons (.expr (.bm .extend (.var 0) (.cons (.lc [("_law_other", 4)] (.name 4) (.r1 (.int 30)) .none (.tup (.cons (.str "r") (.cons (.var 1) (.cons (.var 4) .nil))))) .nil))) .nil)) (.cons (.asg (.name 2) (.lst .nil)) (.cons (.for_ (.name 3) (.str (.str "abcdefg")) (.cons (.expr (.bm .extend (.var 2) (.cons (.lc [("_law_spot", 5)] (.name 5) (.r1 (.int 60)) .none (.tup (.cons (.bin .Add (.str "l") (.var 3)) (.cons (.var 5) .nil)))) .nil))) .nil)) (.cons (.ife (.bop .Or (.cons (.not_ (.call "_law_right" (S_l_right c) (.cons (.int 60) (.cons (.bcall .tuple (.cons (.slc (.var 0) .none (.some (.int 700))) .nil)) (.cons (.bcall .tuple (.cons (.slc (.var 2) .none (.some (.int 400))) .nil)) .nil))))) (.cons (.not_ (.call "_law_right" (S_l_right c) (.cons (.int 61) (.cons (.tup .nil) (.cons (.tup .nil) .nil))))) .nil))) (.cons (.ret (.bl false)) .nil) .nil) (.cons (.ife (.bop .Or (.cons (.not_ (.call "_law_right" (S_l_right c) (.cons (.int 30) (.cons (.bcall .tuple (.cons (.slc (.var 0) .none (.some (.int 701))) .nil)) (.cons (.tup .nil) .nil))))) (.cons (.not_ (.call "_law_right" (S_l_right c) (.cons (.int 60) (.cons (.tup .nil) (.cons (.bcall .tuple (.cons (.slc (.var 2) .none (.some (.int 401))) .nil)) .nil))))) .nil))) (.cons (.ret (.bl false)) .nil) .nil) (.cons (.ret (.bop .And (.cons (.call "_law_right" (S_l_right c) (.cons (.int 0) (.cons (.tup .nil) (.cons (.tup .nil) .nil)))) (.cons (.call "_law_right" (S_l_right c) (.cons (.int 0) (.cons (.tup (.cons (.tup (.cons (.str "r") (.cons (.int 0) (.cons (.int 0) .nil)))) .nil)) (.cons (.tup .nil) .nil)))) (.cons (.call "_law_right" (S_l_right c) (.cons (.int 1) (.cons (.tup (.cons (.tup (.cons (.str "r") (.cons (.int 0) (.cons (.int 0) .nil)))) .nil)) (.cons (.tup (.cons (.tup (.cons (.str "r") (.cons (.int 0) .nil))) .nil)) .nil)))) .nil))))) .nil)))))))
theorem use_l_edges_right (c : Cs) (ds : List D) (M : Mp) (Q : DQ) (z : szs ds) (zm : szM M) (h : S_l_edges_right c ds M Q) : (ir_l_edges_right c).wp (bodyEnds Q) (startD N_l_edges_right ds) M := by
  obtain ⟨rfl, h⟩ := h
  show (ir_l_edges_right c).wp (bodyEnds Q) [none, none, none, none, none, none] M
  simp only [wXX, ir_l_edges_right]
  refine ⟨by simp [sizeLine_eq], fun p hp => ⟨by unfold small62; omega, ?_⟩⟩
  refine forGo_full (T := ⟨rngI 0 30, fun _ => True⟩) (full := rngI 0 30) (fun done ρ M' => ∃ o1 o3 o4 o5, ρ = [some (.ref p), o1, none, o3, o4, o5] ∧ Keep M M' ∧ ∃ xs, M' p = some (.lst xs) ∧ (∀ x ∈ xs, TieE x) ∧ xs.length = 30 * done.length) (fun _ _ _ _ => trivial) (fun y done rest hfull ρ M1 kk hJ hk => ?_) (fun ρ M1 hJ => ?_) _ [] _ _ rfl ⟨_, _, _, _, rfl, .new hp, [], up_same, fun x h => (by cases h), rfl⟩
  · obtain ⟨o1, o3, o4, o5, rfl, k1, xs, hp1, hx, hl⟩ := hJ
    have zd : done.length < 30 := by
      have := congrArg List.length hfull
      rw [List.length_append, rng_len, List.length_cons] at this
      omega
    obtain ⟨i, rfl, i0, i1⟩ := rng_mem (show y ∈ rngI 0 30 by rw [← hfull]; simp)
    refine ⟨_, asn_name, ?_⟩
    simp only [wXX, List.set_cons_succ, List.set_cons_zero]
    refine ⟨.inl ⟨rfl, _, hp1⟩, by unfold small62; omega, by rw [rng_len, sizeLine_eq]; decide, ?_⟩
    refine lcGo_inv (T := ⟨rngI 0 30, fun _ => True⟩) (fun done2 acc M2 => Keep M1 M2 ∧ (∀ x ∈ acc, TieE x) ∧ acc.length = done2.length) (fun _ _ _ _ => trivial) _ [] [] M1 ⟨.refl _, (fun x h => nomatch h), rfl⟩ (fun x hx2 done2 acc M2 k hJ hkk => ?_) fun acc M2 hJ q hq => ?_
    · obtain ⟨k2, ha, hl2⟩ := hJ
      obtain ⟨j, rfl, j0, j1⟩ := rng_mem hx2
      refine ⟨_, asn_name, yes_if ?_⟩
      simp only [wXX, List.set_cons_succ, List.set_cons_zero]
      refine ⟨by simp [sizeLine_eq], hkk _ _ ⟨k2, fun x hx3 => ?_, by rw [List.length_append, List.length_append, hl2]; rfl⟩⟩
      rcases List.mem_append.mp hx3 with hx3 | hx3
      · exact ha x hx3
      · rw [List.mem_singleton.mp hx3]
        refine ⟨"r", [i, j], rfl, by decide +kernel, fun n hn => ?_, by simp⟩
        simp only [List.mem_cons, List.not_mem_nil, or_false] at hn
        rcases hn with rfl | rfl <;> omega
    · obtain ⟨k2, ha, hl2⟩ := hJ
      rw [List.nil_append, rng_len] at hl2
      have hl3 : acc.length = 30 := hl2
      have kq := k2.trans (Keep.new (o := .lst acc) hq)
      refine ⟨p, q, xs, acc, rfl, rfl, kq _ _ hp1, up_same, by rw [sizeLine_eq]; omega, hk _ _ ⟨_, _, _, _, rfl, (k1.trans kq).over hp, xs ++ acc, up_same, fun x hx3 => ?_, by rw [List.length_append, List.length_append, List.length_singleton]; omega⟩⟩
      exact (List.mem_append.mp hx3).elim (hx x) (ha x)
  · obtain ⟨o1, o3, o4, o5, rfl, k1, xs, hp1, hx, hl⟩ := hJ
    rw [rng_len] at hl
    have hl9 : xs.length = 900 := hl
    simp only [wXX, List.set_cons_succ, List.set_cons_zero]
    refine ⟨by simp [sizeLine_eq], fun p2 hp2 => ?_⟩
    have k2 : Keep M1 (up M1 p2 (.lst [])) := .new hp2
    have hp3 := k2 _ _ hp1
    refine forGo_full (T := ⟨strI "abcdefg", fun _ => True⟩) (full := strI "abcdefg") (fun done ρ M' => ∃ o1 o3 o4 o5, ρ = [some (.ref p), o1, some (.ref p2), o3, o4, o5] ∧ Keep M1 M' ∧ ∃ ys, M' p2 = some (.lst ys) ∧ (∀ x ∈ ys, TieE x) ∧ ys.length = 60 * done.length) (fun _ _ _ _ => trivial) (fun y done rest hfull ρ M2 kk hJ hk => ?_) (fun ρ M2 hJ => ?_) _ [] _ _ rfl ⟨_, _, _, _, rfl, k2, [], up_same, fun x h => (by cases h), rfl⟩
    · obtain ⟨o1, o3, o4, o5, rfl, k3, ys, hp4, hy, hl4⟩ := hJ
      have zd : done.length < 7 := by
        have := congrArg List.length hfull
        rw [List.length_append, List.length_cons, show (strI "abcdefg").length = 7 by decide +kernel] at this
        omega
      obtain ⟨cc, hc, rfl⟩ : ∃ cc, nameS (("l" : Str) ++ (⟨#[cc]⟩ : Str)) = true ∧ y = .str ⟨#[cc]⟩ := by
        have hm : y ∈ strI "abcdefg" := by rw [← hfull]; simp
        unfold strI at hm
        obtain ⟨cc, hc, rfl⟩ := List.mem_map.mp hm
        refine ⟨cc, ?_, rfl⟩
        have : ∀ c ∈ (("abcdefg" : Str)).cps.toList, nameS (("l" : Str) ++ (⟨#[c]⟩ : Str)) = true := by decide +kernel
        exact this cc hc
      refine ⟨_, asn_name, ?_⟩
      simp only [wXX, List.set_cons_succ, List.set_cons_zero]
      refine ⟨.inl ⟨rfl, _, hp4⟩, by unfold small62; omega, by rw [rng_len, sizeLine_eq]; decide, ?_⟩
      refine lcGo_inv (T := ⟨rngI 0 60, fun _ => True⟩) (fun done2 acc M3 => Keep M2 M3 ∧ (∀ x ∈ acc, TieE x) ∧ acc.length = done2.length) (fun _ _ _ _ => trivial) _ [] [] M2 ⟨.refl _, (fun x h => nomatch h), rfl⟩ (fun x hx2 done2 acc M3 k hJ hkk => ?_) fun acc M3 hJ q hq => ?_
      · obtain ⟨k4, ha, hl2⟩ := hJ
        obtain ⟨j, rfl, j0, j1⟩ := rng_mem hx2
        refine ⟨_, asn_name, yes_if ?_⟩
        simp only [wXX, List.set_cons_succ, List.set_cons_zero]
        refine ⟨by rw [sizeLine_eq]; show (Str.ofString "l").length + 1 ≤ _; decide +kernel, by simp [sizeLine_eq], hkk _ _ ⟨k4, fun x hx3 => ?_, by rw [List.length_append, List.length_append, hl2]; rfl⟩⟩
        rcases List.mem_append.mp hx3 with hx3 | hx3
        · exact ha x hx3
        · rw [List.mem_singleton.mp hx3]
          refine ⟨_, [j], rfl, hc, fun n hn => ?_, by simp⟩
          rw [List.mem_singleton.mp hn]
          omega
      · obtain ⟨k4, ha, hl2⟩ := hJ
        rw [List.nil_append, rng_len] at hl2
        have hl3 : acc.length = 60 := hl2
        have kq := k4.trans (Keep.new (o := .lst acc) hq)
        refine ⟨p2, q, ys, acc, rfl, rfl, kq _ _ hp4, up_same, by rw [sizeLine_eq]; omega, hk _ _ ⟨_, _, _, _, rfl, (k3.trans kq).over hp2, ys ++ acc, up_same, fun x hx3 => ?_, by rw [List.length_append, List.length_append, List.length_singleton]; omega⟩⟩
        exact (List.mem_append.mp hx3).elim (hy x) (ha x)
    · obtain ⟨o1, o3, o4, o5, rfl, k3, ys, hp4, hy, hl4⟩ := hJ
      have hl5 : ys.length = 420 := by rw [hl4]; decide +kernel
      have e1 := k3 _ _ hp1
      have k03 := k1.trans k3
      clear hl hl4
      have zx : xs.length ≤ 1000 := by omega
      have zy : ys.length ≤ 1000 := by omega
      have nilE : TiesE (.tup []) := ⟨[], rfl, (fun x h => nomatch h), by simp⟩
      simp only [wXX, List.set_cons_succ, List.set_cons_zero]
      refine cut_tuple e1 fun M4 k4 => cut_tuple (k4 _ _ hp4) fun M5 k5 => edge_right (by decide) (tiesE_cut hx zx _ _) (tiesE_cut hy zy _ _) fun M6 k6 => ⟨true, tru_bl.mpr rfl, ?_⟩
      rw [if_neg (by simp)]
      have k36 := k4.trans (k5.trans k6)
      refine ⟨by simp [sizeLine_eq], by simp [sizeLine_eq], edge_right (by decide) nilE nilE fun M7 k7 => ⟨true, tru_bl.mpr rfl, ?_⟩⟩
      rw [if_neg (by simp)]
      have k37 := k36.trans k7
      refine cut_tuple (k37 _ _ e1) fun M8 k8 => ⟨by simp [sizeLine_eq], edge_right (by decide) (tiesE_cut hx zx _ _) nilE fun M9 k9 => ⟨true, tru_bl.mpr rfl, ?_⟩⟩
      rw [if_neg (by simp)]
      have k39 := k37.trans (k8.trans k9)
      have tieR : ∀ is : List Int, (∀ i ∈ is, i = 0) → is.length ≤ 2 → TiesE (.tup [tie "r" is]) := fun is hi hl => ⟨_, rfl, fun x hx => by rw [List.mem_singleton.mp hx]; exact ⟨"r", is, rfl, by decide +kernel, fun i h => by rw [hi i h]; decide, hl⟩, by simp⟩
      refine ⟨by simp [sizeLine_eq], cut_tuple (k39 _ _ hp4) fun M10 k10 => edge_right (by decide) nilE (tiesE_cut hy zy _ _) fun M11 k11 => ⟨true, tru_bl.mpr rfl, ?_⟩⟩
      rw [if_neg (by simp)]
      refine ⟨by simp [sizeLine_eq], by simp [sizeLine_eq], edge_right (by decide) nilE nilE fun M12 k12 => ⟨true, tru_bl.mpr rfl, ?_⟩⟩
      rw [if_pos rfl]
      refine ⟨by simp [sizeLine_eq], by simp [sizeLine_eq], by simp [sizeLine_eq], edge_right (by decide) (tieR [0, 0] (by simp) (by simp)) nilE fun M13 k13 => ⟨true, tru_bl.mpr rfl, ?_⟩⟩
      rw [if_pos rfl]
      refine ⟨by simp [sizeLine_eq], by simp [sizeLine_eq], by simp [sizeLine_eq], by simp [sizeLine_eq], edge_right (by decide) (tieR [0, 0] (by simp) (by simp)) (tieR [0] (by simp) (by simp)) fun M14 k14 => h _ (k03.trans (k39.trans (k10.trans (k11.trans (k12.trans (k13.trans k14))))))⟩
theorem ties_bv {M : Mp} {K : Int} {n N : Nat} {xs : List D} (ok : TiesOk K n xs) (hK : K ≤ 60) (hn : n ≤ 2) (hN : xs.length ≤ N) : Bv M 10 (.tup xs) 2 (4 * N + 1) := by
  refine .tup (s := xs.length * 4) (n := 1) (Bvs.of fun x hx => ?_) (by omega)
  obtain ⟨nm, is, rfl, hi, hn', hr⟩ := ok.each x hx
  have ha : asc nm := by
    unfold nameS at hn'
    rw [Bool.and_eq_true, Bool.and_eq_true] at hn'
    refine List.all_eq_true.mpr fun c hc => decide_eq_true ?_
    have h3 := List.all_eq_true.mp hn'.2 c hc
    unfold isLetter at h3
    rw [Bool.and_eq_true, decide_eq_true_eq, decide_eq_true_eq] at h3
    omega
  have hl : nm.length ≤ 10 := by
    unfold nameS at hn'
    rw [Bool.and_eq_true, Bool.and_eq_true] at hn'
    have := of_decide_eq_true hn'.1.2
    omega
  refine .tup (s := 3) (n := 0) (.cons (s1 := 1) (s2 := 2) (.str ha hl (by omega)) ((Bvs.of (s := 1) fun y hy => ?_).mono (Nat.le_refl _) (Nat.le_refl _) (by rw [List.length_map]; omega)) (by omega)) (by omega)
  obtain ⟨i, hm, rfl⟩ := List.mem_map.mp hy
  have := hr i hm
  exact .int (Nat.lt_of_lt_of_le (show i.natAbs < 10 ^ 2 by omega) (pow_le (by decide))) (by omega)
def Three (M : Mp) (b n s : Nat) (d : D) : Prop := ∃ x y z, d = .tup [x, y, z] ∧ Bv M b x n s ∧ Bv M b y n s ∧ Bv M b z n s
theorem Three.keep {M M' : Mp} {b n s : Nat} {d : D} (h : Three M b n s d) (k : Keep M M') : Three M' b n s d := by
  obtain ⟨x, y, z, rfl, h1, h2, h3⟩ := h
  exact ⟨x, y, z, rfl, h1.keep k, h2.keep k, h3.keep k⟩
theorem three_right {c : Cs} {x y z : D} {M : Mp} {Q : DQ} (hx : Bv M 150 x 10 900) (hy : Bv M 150 y 10 900) (hz : Bv M 150 z 10 900) (h : ∀ M', Keep M M' → Q (.bl true) M') : S_l_right c [x, y, z] M Q := by
  refine ⟨x, y, z, rfl, hx.thg (by decide) (by decide), hy.thg (by decide) (by decide), hz.thg (by decide) (by decide), ?_, h⟩
  have g : Bv M 150 (.tup [x, y, z]) 11 2701 := .tup (.cons hx (.cons hy (.one hz) (Nat.le_refl _)) (Nat.le_refl _)) (by omega)
  exact g.rp (by decide) (by decide) (by decide)
theorem net_k {c : Cs} {k : Nat} {M : Mp} {K : DQ} (hk : k ≤ 60) (h : ∀ M' t, Keep M M' → M' t = some (.ins c.Net (netF (.int (k : Int)) (.tup []) (.tup []))) → K (.ref t) M') : S_Net c [.int (k : Int)] M K := by
  intro y hy
  refine ⟨y, (k : Int), [], [], rfl, up_same, ⟨by omega, by omega, by decide, by decide, .nil, .nil⟩, fun M8 kk8 hy8 => ⟨rfl, h M8 y (fun a o e => ?_) hy8⟩⟩
  have ny : a ≠ y := fun z => by subst z; rw [e] at hy; cases hy
  exact kk8 a o ny (by rw [up_ne ny]; exact e)
theorem with_G {α β : Type} {P : α → β → Prop} {goal : Prop} (G : α → β → Prop) (g : (∀ a b, P a b → G a b) → goal) (f : ∀ a b, P a b → G a b) : goal := g f
theorem ixv {v : D} {n : Nat} {ds : List D} {d : D} {M : Mp} {Q : DQ} (hv : v = .int (n : Int)) (h : ds[n]? = some d) (q : Q d M) : ixD (.tup ds) v M Q := by subst hv; exact ix_t n h q
theorem addv {v : D} {i : Int} {M : Mp} {Q : DQ} (hv : v = .int i) (q : Q (.int (i + 1)) M) : addD v (.int 1) M Q := by subst hv; exact q
abbrev N_law : List Str := ["_law_script", "_law_k", "_law_plain", "_law_pot_here", "_law_mesh_here", "_law_turn", "_law_at", "_law_thing"]
def ir_law (c : Cs) : Ss := (.cons (.for_ (.name 1) (.r1 (.bcall .max (.cons (.int 1) (.cons (.bcall .min (.cons (.int 3) (.cons (.bcall .len (.cons (.var 0) .nil)) .nil))) .nil)))) (.cons (.asg (.name 3) (.call "_law_pot" (S_l_pot c) (.cons (.var 0) (.cons (.var 1) .nil)))) (.cons (.asg (.name 4) (.call "_law_mesh" (S_l_mesh c) (.cons (.var 3) (.cons (.call "_law_home" (S_l_home c) (.cons (.var 3) (.cons (.int 4) .nil))) (.cons (.int 9) (.cons (.int 12) .nil)))))) (.cons (.for_ (.name 5) (.r1 (.int 14)) (.cons (.asg (.name 6) (.idx (.lst (.cons (.int 0) (.cons (.int 1) (.cons (.int 1) (.cons (.int 2) .nil))))) (.bin .Mod (.var 5) (.int 4)))) (.cons (.asg (.name 7) (.ife (.cmp .Gt (.var 5) (.int 0)) (.bin .Add (.bin .Add (.slc (.var 4) .none (.some (.var 6))) (.tup (.cons (.call "_law_bent" (S_l_bent c) (.cons (.var 3) (.cons (.idx (.var 4) (.var 6)) (.cons (.int 3) .nil)))) .nil))) (.slc (.var 4) (.some (.bin .Add (.var 6) (.int 1))) .none)) (.var 4))) (.cons (.ife (.cmp .Gt (.var 5) (.int 10)) (.cons (.asg (.name 7) (.tup (.cons (.idx (.var 7) (.int 0)) (.cons (.call "_law_bent" (S_l_bent c) (.cons (.var 3) (.cons (.idx (.var 7) (.int 1)) (.cons (.int 3) .nil)))) (.cons (.call "_law_bent" (S_l_bent c) (.cons (.var 3) (.cons (.idx (.var 7) (.int 2)) (.cons (.int 3) .nil)))) .nil))))) .nil) .nil) (.cons (.ife (.not_ (.call "_law_right" (S_l_right c) (.cons (.idx (.var 7) (.int 0)) (.cons (.idx (.var 7) (.int 1)) (.cons (.idx (.var 7) (.int 2)) .nil))))) (.cons (.ret (.bl false)) .nil) .nil) .nil))))) .nil)))) (.cons (.asg (.name 2) (.call "Net" (S_Net c) (.cons (.int 7) .nil))) (.cons (.ret (.bop .And (.cons (.call "_law_edges_right" (S_l_edges_right c) .nil) (.cons (.cmp .Eq (.tup (.cons (.fld (.var 2) c.Net "knots") (.cons (.fld (.var 2) c.Net "links") (.cons (.fld (.var 2) c.Net "labels") (.cons (.lenO c.Net (S_Net_len_ c) (.var 2)) .nil))))) (.tup (.cons (.int 7) (.cons (.tup .nil) (.cons (.tup .nil) (.cons (.int 7) .nil)))))) .nil)))) .nil)))
def S_law (_ : Cs) : Spec := fun ds M Q => ∃ a ns, ds = [.ref a] ∧ M a = some (.scr ns) ∧ ns.length ≤ 100 ∧ ∀ M', Keep M M' → Q (.bl true) M'
theorem use_law (c : Cs) (ds : List D) (M : Mp) (Q : DQ) (z : szs ds) (zm : szM M) (h : S_law c ds M Q) : (ir_law c).wp (bodyEnds Q) (startD N_law ds) M := by
  obtain ⟨a, ns, rfl, ha, hz, h⟩ := h
  show (ir_law c).wp (bodyEnds Q) [some (.ref a), none, none, none, none, none, none, none] M
  simp only [wXX, ir_law]
  refine ⟨_, ns.length, rfl, .inr ⟨ns, ha, rfl⟩, ⟨3, _, rfl, ⟨1, _, rfl, ?_⟩⟩⟩
  generalize hn : (if (if (ns.length : Int) < 3 then (ns.length : Int) else 3) > 1 then (if (ns.length : Int) < 3 then (ns.length : Int) else 3) else 1) = n
  have n2 : n ≤ 3 := by rw [← hn]; split <;> (try split) <;> omega
  have n1 : 1 ≤ n := by rw [← hn]; split <;> (try split) <;> omega
  refine ⟨n, rfl, by unfold small62; omega, ?_⟩
  refine forGo_inv (T := ⟨rngI 0 n, fun _ => True⟩) (fun _ ρ M' => Keep M M' ∧ ∃ o1 o3 o4 o5 o6 o7, ρ = [some (.ref a), o1, none, o3, o4, o5, o6, o7]) (fun _ _ _ _ => trivial) _ [] _ M ⟨.refl _, _, _, _, _, _, _, rfl⟩ (fun y hy done ρ M1 kk hJ hk => ?_) fun ρ M1 hJ => ?_
  · obtain ⟨k1, o1, o3, o4, o5, o6, o7, rfl⟩ := hJ
    obtain ⟨i, rfl, i0, i1⟩ := rng_mem hy
    refine ⟨_, asn_name, ?_⟩
    simp only [wXX, List.set_cons_succ, List.set_cons_zero]
    refine ⟨a, ns, i, rfl, k1 _ _ ha, hz, i0, by omega, fun M2 p k2 hp0 hp => ?_⟩
    refine ⟨p, 4, rfl, hp, by decide, by decide, fun M3 s rs ls k3 s1 s4 okr okl r1 l4 _ => ?_⟩
    refine ⟨p, s, rs, ls, 9, 12, rfl, k3 _ _ hp, okr, okl, r1, by decide, by decide, by decide, by decide, fun M4 many ks bs k4 m0 m1 mok zk zb => ⟨by unfold small62; omega, ?_⟩⟩
    have hp4 := k4 _ _ (k3 _ _ hp)
    have k04 := k1.trans (k2.trans (k3.trans k4))
    have bk : Bv M4 10 (.int many) 2 49 := .int (Nat.lt_of_lt_of_le (show many.natAbs < 10 ^ 2 by omega) (pow_le (by decide))) (by omega)
    have bl : Bv M4 10 (.tup ks) 2 49 := ties_bv mok.net.lk mok.net.k1 (by decide) (N := 12) zk
    have bb : Bv M4 10 (.tup bs) 2 49 := ties_bv mok.net.lb mok.net.k1 (by decide) (N := 12) (by omega)
    refine forGo_inv (T := ⟨rngI 0 14, fun _ => True⟩) (fun _ ρ M' => Keep M4 M' ∧ ∃ o5 o6 o7, ρ = [some (.ref a), some (.int i), none, some (.ref p), some (meshT many ks bs), o5, o6, o7]) (fun _ _ _ _ => trivial) _ [] _ M4 ⟨.refl _, _, _, _, rfl⟩ (fun y hy done ρ M5 kk5 hJ hk5 => ?_) fun ρ M5 hJ => ?_
    · obtain ⟨k5, o5, o6, o7, rfl⟩ := hJ
      obtain ⟨t, rfl, t0, t1⟩ := rng_mem hy
      refine ⟨_, asn_name, ?_⟩
      simp only [wXX, List.set_cons_succ, List.set_cons_zero]
      refine ⟨by simp [sizeLine_eq], fun q hq => ⟨by decide, ?_⟩⟩
      have kq := k5.trans (Keep.new (o := .lst [.int 0, .int 1, .int 1, .int 2]) hq)
      obtain ⟨v, hv, hget⟩ : ∃ v : D, (v = .int 0 ∨ v = .int 1 ∨ v = .int 2) ∧ [D.int 0, .int 1, .int 1, .int 2][(t % 4).toNat]? = some v := by
        have h4 : t % 4 = 0 ∨ t % 4 = 1 ∨ t % 4 = 2 ∨ t % 4 = 3 := by omega
        rcases h4 with e | e | e | e <;> rw [e]
        · exact ⟨_, .inl rfl, rfl⟩
        · exact ⟨_, .inr (.inl rfl), rfl⟩
        · exact ⟨_, .inr (.inl rfl), rfl⟩
        · exact ⟨_, .inr (.inr rfl), rfl⟩
      have e4 : t % 4 = (((t % 4).toNat : Nat) : Int) := by omega
      rw [e4]
      refine ix_l _ up_same hget ?_
      generalize up M5 q (.lst [.int 0, .int 1, .int 1, .int 2]) = M6 at kq ⊢
      have hp6 := kq _ _ hp4
      apply with_G (P := fun M7 d => Keep M6 M7 ∧ Three M7 80 4 157 d)
      · intro fin
        by_cases h0 : 0 < t
        · rw [if_pos (decide_eq_true h0)]
          have bent : ∀ (d : D) (K : DQ), Bv M4 10 d 2 49 → (∀ M7 e, Keep M6 M7 → Bv M7 80 e 4 157 → K e M7) → S_l_bent c [.ref p, d, .int 3] M6 K := fun d K hd hK => ⟨p, d, 10, 2, 49, 3, rfl, hp6, by decide, by decide, hd.keep kq, by decide, by decide, fun M7 e k7 he => hK M7 e k7 he⟩
          have up : ∀ {M7 : Mp} {d : D}, Keep M6 M7 → Bv M4 10 d 2 49 → Bv M7 80 d 4 157 := fun {M7 d} k7 hd => (hd.keep (kq.trans k7)).mono (by decide) (by decide) (by decide)
          have hv' := hv
          rcases hv' with hv | hv | hv
          · refine ⟨0, hv, slD_t (ds' := []) rfl (ixv (n := 0) hv rfl (bent _ _ bk fun M7 e k7 he => ⟨by simp [sizeLine_eq], by simp [sizeLine_eq], addv hv ⟨1, rfl, slD_t (ds' := [.tup ks, .tup bs]) rfl ⟨by simp [sizeLine_eq], ?_⟩⟩⟩))⟩
            have hP : Keep M6 M7 ∧ Three M7 80 4 157 (.tup ([] ++ [e] ++ [D.tup ks, D.tup bs])) := ⟨k7, _, _, _, rfl, he, up k7 bl, up k7 bb⟩
            generalize D.tup ([] ++ [e] ++ [D.tup ks, D.tup bs]) = d at hP
            exact fin M7 d hP
          · refine ⟨1, hv, slD_t (ds' := [.int many]) rfl (ixv (n := 1) hv rfl (bent _ _ bl fun M7 e k7 he => ⟨by simp [sizeLine_eq], by simp [sizeLine_eq], addv hv ⟨2, rfl, slD_t (ds' := [.tup bs]) rfl ⟨by simp [sizeLine_eq], ?_⟩⟩⟩))⟩
            have hP : Keep M6 M7 ∧ Three M7 80 4 157 (.tup ([D.int many] ++ [e] ++ [D.tup bs])) := ⟨k7, _, _, _, rfl, up k7 bk, he, up k7 bb⟩
            generalize D.tup ([D.int many] ++ [e] ++ [D.tup bs]) = d at hP
            exact fin M7 d hP
          · refine ⟨2, hv, slD_t (ds' := [.int many, .tup ks]) rfl (ixv (n := 2) hv rfl (bent _ _ bb fun M7 e k7 he => ⟨by simp [sizeLine_eq], by simp [sizeLine_eq], addv hv ⟨3, rfl, slD_t (ds' := []) rfl ⟨by simp [sizeLine_eq], ?_⟩⟩⟩))⟩
            have hP : Keep M6 M7 ∧ Three M7 80 4 157 (.tup ([D.int many, D.tup ks] ++ [e] ++ [])) := ⟨k7, _, _, _, rfl, up k7 bk, up k7 bl, he⟩
            generalize D.tup ([D.int many, D.tup ks] ++ [e] ++ []) = d at hP
            exact fin M7 d hP
        · rw [if_neg (by simp [h0])]
          have hP : Keep M6 M6 ∧ Three M6 80 4 157 (meshT many ks bs) := ⟨.refl _, _, _, _, rfl, (bk.keep kq).mono (by decide) (by decide) (by decide), (bl.keep kq).mono (by decide) (by decide) (by decide), (bb.keep kq).mono (by decide) (by decide) (by decide)⟩
          have fin2 := fin M6 (meshT many ks bs) hP
          exact fin2
      · intro M7 d hP
        obtain ⟨k7, x, y, z, rfl, hx, hy2, hz2⟩ := hP
        have hp7 := k7 _ _ hp6
        have k57 := kq.trans k7
        show (if decide (10 < t) = true then _ else _)
        by_cases h10 : 10 < t
        · rw [if_pos (decide_eq_true h10)]
          refine ix_t 0 rfl (ix_t 1 rfl ⟨p, y, 80, 4, 157, 3, rfl, hp7, by decide, by decide, hy2, by decide, by decide, fun M8 y8 k8 hy8 => ix_t 2 rfl ⟨p, z, 80, 4, 157, 3, rfl, k8 _ _ hp7, by decide, by decide, hz2.keep k8, by decide, by decide, fun M9 z9 k9 hz9 => ⟨by simp [sizeLine_eq], ?_⟩⟩⟩)
          refine three_right (((hx.keep (k8.trans k9))).mono (by decide) (by decide) (by decide)) ((hy8.keep k9).mono (by decide) (by decide) (by decide)) (hz9.mono (by decide) (by decide) (by decide)) fun M10 k10 => ⟨true, tru_bl.mpr rfl, ?_⟩
          rw [if_neg (by simp)]
          exact hk5 _ _ ⟨k57.trans (k8.trans (k9.trans k10)), _, _, _, rfl⟩
        · rw [if_neg (by simp [h10])]
          refine ix_t 0 rfl (ix_t 1 rfl (ix_t 2 rfl (three_right (hx.mono (by decide) (by decide) (by decide)) (hy2.mono (by decide) (by decide) (by decide)) (hz2.mono (by decide) (by decide) (by decide)) fun M10 k10 => ⟨true, tru_bl.mpr rfl, ?_⟩)))
          rw [if_neg (by simp)]
          exact hk5 _ _ ⟨k57.trans k10, _, _, _, rfl⟩
    · obtain ⟨k5, o5, o6, o7, rfl⟩ := hJ
      exact hk _ _ ⟨k04.trans k5, _, _, _, _, _, _, rfl⟩
  · obtain ⟨k1, o1, o3, o4, o5, o6, o7, rfl⟩ := hJ
    simp only [wXX, List.set_cons_succ, List.set_cons_zero]
    refine net_k (k := 7) (by decide) fun M2 x k2 hx => ⟨rfl, fun M3 k3 => ⟨true, tru_bl.mpr rfl, ?_⟩⟩
    rw [if_pos rfl]
    have hx3 := k3 _ _ hx
    refine ⟨x, _, _, rfl, hx3, look_knots, x, _, _, rfl, hx3, look_links, x, _, _, rfl, hx3, look_labels, x, _, rfl, hx3, x, 7, _, _, rfl, hx3, by decide, by decide, fun M4 k4 => ⟨7, rfl, by decide, by decide, by simp [sizeLine_eq], by simp [sizeLine_eq], by simp [sizeLine_eq], by simp [sizeLine_eq], ?_⟩⟩
    exact eq_self (d := .tup [.int 7, .tup [], .tup [], .int 7]) rfl (by unfold lay; decide +kernel) (by decide +kernel) (h _ (k1.trans (k2.trans (k3.trans k4))))
end DL
namespace DL
open PySem PySem.Spec PyProof.Rows L2
structure Lw (P : Program) (w : World) (K : PySem.W.Frag) (mg : Str → Option Value) (base : Heap) (c : Cs) : Prop where
  cP : c.P = P
  cw : c.w = w
  nd : base.NoDigits
  b_ValueError : mg "ValueError" = none
  b_abs : mg "abs" = none
  b_all : mg "all" = none
  b_bool : mg "bool" = none
  b_int : mg "int" = none
  b_isinstance : mg "isinstance" = none
  b_len : mg "len" = none
  b_list : mg "list" = none
  b_max : mg "max" = none
  b_min : mg "min" = none
  b_range : mg "range" = none
  b_repr : mg "repr" = none
  b_sorted : mg "sorted" = none
  b_str : mg "str" = none
  b_tuple : mg "tuple" = none
  b_zip : mg "zip" = none
  g_LETTERS : GlD K mg "LETTERS" (.str "abcdefghijklmnopqrstuvwxyz")
  g_MOST_KNOTS : GlD K mg "MOST_KNOTS" (.int 60)
  g_MOST_LABELS : GlD K mg "MOST_LABELS" (.int 400)
  g_MOST_LETTERS : GlD K mg "MOST_LETTERS" (.int 6)
  g_MOST_LINKS : GlD K mg "MOST_LINKS" (.int 700)
  m_Net : mg "Net" = some (.ref c.Net)
  c_Net : ClsF K c.Net
  f_Net_knots : Cf K c.Net "knots"
  f_Net_labels : Cf K c.Net "labels"
  f_Net_links : Cf K c.Net "links"
  mE_HouseError : mg "HouseError" = some (.ref (c.ex "HouseError"))
  mE_NoNet : mg "NoNet" = some (.ref (c.ex "NoNet"))
  bi_HouseError : BaseI K mg "HouseError"
  xs_0 : ExS K (.type "ValueError") [c.ex "NoNet"] []
  xs_1 : ExS K (.ref (c.ex "NoNet")) [c.ex "NoNet"] []
  xm_0 : ExM K (.ref (c.ex "HouseError")) (exck [c.ex "NoNet"] [])
  xf_0 : Xf K (c.ex "NoNet") "field"
abbrev P_are_rising : List Str := ["some"]
abbrev NN_are_rising : List Str := ["some", "one", "other"]
theorem sc_are_rising : FnScope NN_are_rising P_are_rising (defScope s_are_rising) := C8.fnScope_by (by decide +kernel)
theorem mt_are_rising (c : Cs) : (ir_are_rising c).mt ⟨NN_are_rising, defScope s_are_rising, fun _ => true⟩ (defBody s_are_rising) = true := by kernel_rfl
theorem len_are_rising (c : Cs) (ds : List D) (M : Mp) (Q : DQ) (h : S_are_rising c ds M Q) : ds.length = P_are_rising.length := by
  unfold S_are_rising at h
  repeat' (first | (obtain ⟨rfl, _⟩ := h; rfl; done) | (refine Or.elim h (fun h => ?_) (fun h => ?_)) | (obtain ⟨_, h⟩ := h))
theorem ok_are_rising {P : Program} {w : World} {K : PySem.W.Frag} {mg : Str → Option Value} {base : Heap} {f : Addr} {fd : FuncData} {c : Cs} {kws : List (Str × V)} (L : Lw P w K mg base c) (F : FunD K "are_rising" "are_rising" (defArgs s_are_rising) (defBody s_are_rising) (defScope s_are_rising) [] kws f fd)  : FnOk P w K mg base CX0 1 f fd P_are_rising (spD K (S_are_rising c)) := by
  refine fn_okP (k := 0) F sc_are_rising (ir_are_rising c) (len_are_rising c) (mt_are_rising c) (fun A hr => ?_) (use_are_rising c)
  simp only [ir_are_rising, Ss.ok, S.ok, E.ok, Es.ok, Oe.ok, Wk.ok, Es.len, Blt.nm, Blt.isRepr, Bool.false_eq_true, false_implies, and_true, true_and, Nat.zero_add, Nat.reduceAdd, List.length_cons, List.length_nil]
  repeat' (first | exact trivial | rfl | exact L.b_all | exact L.b_zip | exact L.cP | exact L.cw | apply And.intro)
abbrev P_is_whole : List Str := ["thing", "low", "high"]
abbrev NN_is_whole : List Str := ["thing", "low", "high"]
theorem sc_is_whole : FnScope NN_is_whole P_is_whole (defScope s_is_whole) := C8.fnScope_by (by decide +kernel)
theorem mt_is_whole (c : Cs) : (ir_is_whole c).mt ⟨NN_is_whole, defScope s_is_whole, fun _ => true⟩ (defBody s_is_whole) = true := by kernel_rfl
theorem len_is_whole (c : Cs) (ds : List D) (M : Mp) (Q : DQ) (h : S_is_whole c ds M Q) : ds.length = P_is_whole.length := by
  unfold S_is_whole at h
  repeat' (first | (obtain ⟨rfl, _⟩ := h; rfl; done) | (refine Or.elim h (fun h => ?_) (fun h => ?_)) | (obtain ⟨_, h⟩ := h))
theorem ok_is_whole {P : Program} {w : World} {K : PySem.W.Frag} {mg : Str → Option Value} {base : Heap} {f : Addr} {fd : FuncData} {c : Cs} {kws : List (Str × V)} (L : Lw P w K mg base c) (F : FunD K "is_whole" "is_whole" (defArgs s_is_whole) (defBody s_is_whole) (defScope s_is_whole) [] kws f fd)  : FnOk P w K mg base CX0 1 f fd P_is_whole (spD K (S_is_whole c)) := by
  refine fn_okP (k := 0) F sc_is_whole (ir_is_whole c) (len_is_whole c) (mt_is_whole c) (fun A hr => ?_) (use_is_whole c)
  simp only [ir_is_whole, Ss.ok, S.ok, E.ok, Es.ok, Oe.ok, Wk.ok, Es.len, Blt.nm, Blt.isRepr, Bool.false_eq_true, false_implies, and_true, true_and, Nat.zero_add, Nat.reduceAdd, List.length_cons, List.length_nil]
  repeat' (first | exact trivial | rfl | exact isaB_ok L.b_isinstance L.b_bool (by decide) | exact isaB_ok L.b_isinstance L.b_int (by decide) | exact L.cP | exact L.cw | apply And.intro)
abbrev P_are_whole : List Str := ["thing", "low", "high"]
abbrev NN_are_whole : List Str := ["thing", "low", "high", "one"]
theorem sc_are_whole : FnScope NN_are_whole P_are_whole (defScope s_are_whole) := C8.fnScope_by (by decide +kernel)
theorem mt_are_whole (c : Cs) : (ir_are_whole c).mt ⟨NN_are_whole, defScope s_are_whole, fun _ => true⟩ (defBody s_are_whole) = true := by kernel_rfl
theorem len_are_whole (c : Cs) (ds : List D) (M : Mp) (Q : DQ) (h : S_are_whole c ds M Q) : ds.length = P_are_whole.length := by
  unfold S_are_whole at h
  repeat' (first | (obtain ⟨rfl, _⟩ := h; rfl; done) | (refine Or.elim h (fun h => ?_) (fun h => ?_)) | (obtain ⟨_, h⟩ := h))
theorem ok_are_whole {P : Program} {w : World} {K : PySem.W.Frag} {mg : Str → Option Value} {base : Heap} {f : Addr} {fd : FuncData} {c : Cs} {kws : List (Str × V)} (L : Lw P w K mg base c) (F : FunD K "are_whole" "are_whole" (defArgs s_are_whole) (defBody s_are_whole) (defScope s_are_whole) [] kws f fd) (h0 : Pr P w K mg base 1 "is_whole" 3 [] (S_is_whole c)) : FnOk P w K mg base CX0 2 f fd P_are_whole (spD K (S_are_whole c)) := by
  refine fn_okP (k := 1) F sc_are_whole (ir_are_whole c) (len_are_whole c) (mt_are_whole c) (fun A hr => ?_) (use_are_whole c)
  have qh0 := h0 A (hr.mono (by decide))
  simp only [ir_are_whole, Ss.ok, S.ok, E.ok, Es.ok, Oe.ok, Wk.ok, Es.len, Blt.nm, Blt.isRepr, Bool.false_eq_true, false_implies, and_true, true_and, Nat.zero_add, Nat.reduceAdd, List.length_cons, List.length_nil]
  repeat' (first | exact trivial | rfl | exact qh0 | exact L.b_all | exact isaB_ok L.b_isinstance L.b_tuple (by decide) | exact L.cP | exact L.cw | apply And.intro)
abbrev P_is_name : List Str := ["thing"]
abbrev NN_is_name : List Str := ["thing", "sign"]
theorem sc_is_name : FnScope NN_is_name P_is_name (defScope s_is_name) := C8.fnScope_by (by decide +kernel)
theorem mt_is_name (c : Cs) : (ir_is_name c).mt ⟨NN_is_name, defScope s_is_name, fun _ => true⟩ (defBody s_is_name) = true := by kernel_rfl
theorem len_is_name (c : Cs) (ds : List D) (M : Mp) (Q : DQ) (h : S_is_name c ds M Q) : ds.length = P_is_name.length := by
  unfold S_is_name at h
  repeat' (first | (obtain ⟨rfl, _⟩ := h; rfl; done) | (refine Or.elim h (fun h => ?_) (fun h => ?_)) | (obtain ⟨_, h⟩ := h))
theorem ok_is_name {P : Program} {w : World} {K : PySem.W.Frag} {mg : Str → Option Value} {base : Heap} {f : Addr} {fd : FuncData} {c : Cs} {kws : List (Str × V)} (L : Lw P w K mg base c) (F : FunD K "is_name" "is_name" (defArgs s_is_name) (defBody s_is_name) (defScope s_is_name) [] kws f fd)  : FnOk P w K mg base CX0 1 f fd P_is_name (spD K (S_is_name c)) := by
  refine fn_okP (k := 0) F sc_is_name (ir_is_name c) (len_is_name c) (mt_is_name c) (fun A hr => ?_) (use_is_name c)
  simp only [ir_is_name, Ss.ok, S.ok, E.ok, Es.ok, Oe.ok, Wk.ok, Es.len, Blt.nm, Blt.isRepr, Bool.false_eq_true, false_implies, and_true, true_and, Nat.zero_add, Nat.reduceAdd, List.length_cons, List.length_nil]
  repeat' (first | exact trivial | rfl | exact L.b_all | exact L.b_len | exact L.g_LETTERS | exact L.g_MOST_LETTERS | exact isaB_ok L.b_isinstance L.b_str (by decide) | exact L.cP | exact L.cw | apply And.intro)
abbrev P_are_ties : List Str := ["thing", "knots", "size", "most"]
abbrev NN_are_ties : List Str := ["thing", "knots", "size", "most", "tie"]
theorem sc_are_ties : FnScope NN_are_ties P_are_ties (defScope s_are_ties) := C8.fnScope_by (by decide +kernel)
theorem mt_are_ties (c : Cs) : (ir_are_ties c).mt ⟨NN_are_ties, defScope s_are_ties, fun _ => true⟩ (defBody s_are_ties) = true := by kernel_rfl
theorem len_are_ties (c : Cs) (ds : List D) (M : Mp) (Q : DQ) (h : S_are_ties c ds M Q) : ds.length = P_are_ties.length := by
  unfold S_are_ties at h
  repeat' (first | (obtain ⟨rfl, _⟩ := h; rfl; done) | (refine Or.elim h (fun h => ?_) (fun h => ?_)) | (obtain ⟨_, h⟩ := h))
theorem ok_are_ties {P : Program} {w : World} {K : PySem.W.Frag} {mg : Str → Option Value} {base : Heap} {f : Addr} {fd : FuncData} {c : Cs} {kws : List (Str × V)} (L : Lw P w K mg base c) (F : FunD K "are_ties" "are_ties" (defArgs s_are_ties) (defBody s_are_ties) (defScope s_are_ties) [] kws f fd) (h0 : Pr P w K mg base 1 "are_rising" 1 [] (S_are_rising c)) (h1 : Pr P w K mg base 2 "are_whole" 3 [] (S_are_whole c)) (h2 : Pr P w K mg base 1 "is_name" 1 [] (S_is_name c)) : FnOk P w K mg base CX0 3 f fd P_are_ties (spD K (S_are_ties c)) := by
  refine fn_okP (k := 2) F sc_are_ties (ir_are_ties c) (len_are_ties c) (mt_are_ties c) (fun A hr => ?_) (use_are_ties c)
  have qh0 := h0 A (hr.mono (by decide))
  have qh1 := h1 A (hr.mono (by decide))
  have qh2 := h2 A (hr.mono (by decide))
  simp only [ir_are_ties, Ss.ok, S.ok, E.ok, Es.ok, Oe.ok, Wk.ok, Es.len, Blt.nm, Blt.isRepr, Bool.false_eq_true, false_implies, and_true, true_and, Nat.zero_add, Nat.reduceAdd, List.length_cons, List.length_nil]
  repeat' (first | exact trivial | rfl | exact qh0 | exact qh1 | exact qh2 | exact L.b_len | exact isaB_ok L.b_isinstance L.b_tuple (by decide) | exact L.cP | exact L.cw | apply And.intro)
abbrev P_Net_init : List Str := ["self", "knots", "links", "labels"]
abbrev NN_Net_init : List Str := ["self", "knots", "links", "labels"]
theorem sc_Net_init : FnScope NN_Net_init P_Net_init (defScope s_Net_init) := C8.fnScope_by (by decide +kernel)
theorem mt_Net_init (c : Cs) : (ir_Net_init c).mt ⟨NN_Net_init, defScope s_Net_init, fun _ => true⟩ (defBody s_Net_init) = true := by kernel_rfl
theorem len_Net_init (c : Cs) (ds : List D) (M : Mp) (Q : DQ) (h : S_Net_init c ds M Q) : ds.length = P_Net_init.length := by
  unfold S_Net_init at h
  repeat' (first | (obtain ⟨rfl, _⟩ := h; rfl; done) | (refine Or.elim h (fun h => ?_) (fun h => ?_)) | (obtain ⟨_, h⟩ := h))
theorem ok_Net_init {P : Program} {w : World} {K : PySem.W.Frag} {mg : Str → Option Value} {base : Heap} {f : Addr} {fd : FuncData} {c : Cs} {kws : List (Str × V)} (L : Lw P w K mg base c) (F : FunD K "__init__" "Net.__init__" (defArgs s_Net_init) (defBody s_Net_init) (defScope s_Net_init) [] kws f fd) (h0 : Pr P w K mg base 3 "are_ties" 4 [] (S_are_ties c)) (h1 : Pr P w K mg base 1 "is_whole" 3 [] (S_is_whole c)) : FnOk P w K mg base CX0 4 f fd P_Net_init (spD K (S_Net_init c)) := by
  refine fn_okP (k := 3) F sc_Net_init (ir_Net_init c) (len_Net_init c) (mt_Net_init c) (fun A hr => ?_) (use_Net_init c)
  have qh0 := h0 A (hr.mono (by decide))
  have qh1 := h1 A (hr.mono (by decide))
  simp only [ir_Net_init, Ss.ok, S.ok, E.ok, Es.ok, Oe.ok, Wk.ok, Es.len, Blt.nm, Blt.isRepr, Bool.false_eq_true, false_implies, and_true, true_and, Nat.zero_add, Nat.reduceAdd, List.length_cons, List.length_nil]
  repeat' (first | exact trivial | rfl | exact qh0 | exact qh1 | exact L.g_MOST_KNOTS | exact L.g_MOST_LABELS | exact L.g_MOST_LINKS | exact L.f_Net_knots | exact L.f_Net_labels | exact L.f_Net_links | exact L.cP | exact L.cw | apply And.intro)
abbrev P_l_take : List Str := ["_law_pot_here", "_law_upto"]
abbrev NN_l_take : List Str := ["_law_pot_here", "_law_upto", "_law_digit"]
theorem sc_l_take : FnScope NN_l_take P_l_take (defScope s_l_take) := C8.fnScope_by (by decide +kernel)
theorem mt_l_take (c : Cs) : (ir_l_take c).mt ⟨NN_l_take, defScope s_l_take, fun _ => true⟩ (defBody s_l_take) = true := by kernel_rfl
theorem len_l_take (c : Cs) (ds : List D) (M : Mp) (Q : DQ) (h : S_l_take c ds M Q) : ds.length = P_l_take.length := by
  unfold S_l_take at h
  repeat' (first | (obtain ⟨rfl, _⟩ := h; rfl; done) | (refine Or.elim h (fun h => ?_) (fun h => ?_)) | (obtain ⟨_, h⟩ := h))
theorem ok_l_take {P : Program} {w : World} {K : PySem.W.Frag} {mg : Str → Option Value} {base : Heap} {f : Addr} {fd : FuncData} {c : Cs} {kws : List (Str × V)} (L : Lw P w K mg base c) (F : FunD K "_law_take" "_law_take" (defArgs s_l_take) (defBody s_l_take) (defScope s_l_take) [] kws f fd)  : FnOk P w K mg base CX0 1 f fd P_l_take (spD K (S_l_take c)) := by
  refine fn_okG (k := 0) F sc_l_take (ir_l_take c) (len_l_take c) (mt_l_take c) (fun A hr => ?_) (useP_l_take c)
  simp only [ir_l_take, Ss.ok, S.ok, E.ok, Es.ok, Oe.ok, Wk.ok, Es.len, Blt.nm, Blt.isRepr, Bool.false_eq_true, false_implies, and_true, true_and, Nat.zero_add, Nat.reduceAdd, List.length_cons, List.length_nil]
  repeat' (first | exact trivial | rfl | exact L.cP | exact L.cw | apply And.intro)
abbrev P_l_of : List Str := ["_law_pot_here", "_law_some"]
abbrev NN_l_of : List Str := ["_law_pot_here", "_law_some"]
theorem sc_l_of : FnScope NN_l_of P_l_of (defScope s_l_of) := C8.fnScope_by (by decide +kernel)
theorem mt_l_of (c : Cs) : (ir_l_of c).mt ⟨NN_l_of, defScope s_l_of, fun _ => true⟩ (defBody s_l_of) = true := by kernel_rfl
theorem len_l_of (c : Cs) (ds : List D) (M : Mp) (Q : DQ) (h : S_l_of c ds M Q) : ds.length = P_l_of.length := by
  unfold S_l_of at h
  repeat' (first | (obtain ⟨rfl, _⟩ := h; rfl; done) | (refine Or.elim h (fun h => ?_) (fun h => ?_)) | (obtain ⟨_, h⟩ := h))
theorem ok_l_of {P : Program} {w : World} {K : PySem.W.Frag} {mg : Str → Option Value} {base : Heap} {f : Addr} {fd : FuncData} {c : Cs} {kws : List (Str × V)} (L : Lw P w K mg base c) (F : FunD K "_law_of" "_law_of" (defArgs s_l_of) (defBody s_l_of) (defScope s_l_of) [] kws f fd) (h0 : Pr P w K mg base 1 "_law_take" 2 [] (S_l_take c)) : FnOk P w K mg base CX0 2 f fd P_l_of (spD K (S_l_of c)) := by
  refine fn_okP (k := 1) F sc_l_of (ir_l_of c) (len_l_of c) (mt_l_of c) (fun A hr => ?_) (use_l_of c)
  have qh0 := h0 A (hr.mono (by decide))
  simp only [ir_l_of, Ss.ok, S.ok, E.ok, Es.ok, Oe.ok, Wk.ok, Es.len, Blt.nm, Blt.isRepr, Bool.false_eq_true, false_implies, and_true, true_and, Nat.zero_add, Nat.reduceAdd, List.length_cons, List.length_nil]
  repeat' (first | exact trivial | rfl | exact qh0 | exact L.b_len | exact L.cP | exact L.cw | apply And.intro)
abbrev P_l_odd : List Str := ["_law_pot_here", "_law_thing"]
abbrev NN_l_odd : List Str := ["_law_pot_here", "_law_thing", "_law_some"]
theorem sc_l_odd : FnScope NN_l_odd P_l_odd (defScope s_l_odd) := C8.fnScope_by (by decide +kernel)
theorem mt_l_odd (c : Cs) : (ir_l_odd c).mt ⟨NN_l_odd, defScope s_l_odd, fun _ => true⟩ (defBody s_l_odd) = true := by kernel_rfl
theorem len_l_odd (c : Cs) (ds : List D) (M : Mp) (Q : DQ) (h : S_l_odd c ds M Q) : ds.length = P_l_odd.length := by
  unfold S_l_odd at h
  repeat' (first | (obtain ⟨rfl, _⟩ := h; rfl; done) | (refine Or.elim h (fun h => ?_) (fun h => ?_)) | (obtain ⟨_, h⟩ := h))
theorem ok_l_odd {P : Program} {w : World} {K : PySem.W.Frag} {mg : Str → Option Value} {base : Heap} {f : Addr} {fd : FuncData} {c : Cs} {kws : List (Str × V)} (L : Lw P w K mg base c) (F : FunD K "_law_odd" "_law_odd" (defArgs s_l_odd) (defBody s_l_odd) (defScope s_l_odd) [] kws f fd) (h0 : Pr P w K mg base 2 "_law_of" 2 [] (S_l_of c)) : FnOk P w K mg base CX0 3 f fd P_l_odd (spD K (S_l_odd c)) := by
  refine fn_okP (k := 2) F sc_l_odd (ir_l_odd c) (len_l_odd c) (mt_l_odd c) (fun A hr => ?_) (use_l_odd c)
  have qh0 := h0 A (hr.mono (by decide))
  simp only [ir_l_odd, Ss.ok, S.ok, E.ok, Es.ok, Oe.ok, Wk.ok, Es.len, Blt.nm, Blt.isRepr, Bool.false_eq_true, false_implies, and_true, true_and, Nat.zero_add, Nat.reduceAdd, List.length_cons, List.length_nil]
  repeat' (first | exact trivial | rfl | exact qh0 | refine E.addB_ok ?_ ?_ | refine E.subB_ok ?_ ?_ | refine E.strB_ok L.b_str ?_ | exact L.b_list | exact L.b_str | exact isaB_ok L.b_isinstance L.b_int (by decide) | exact isaB_ok L.b_isinstance L.b_str (by decide) | exact isaB_ok L.b_isinstance L.b_tuple (by decide) | exact L.cP | exact L.cw | (simp only [jsAll, cvAll, cvxAll, ktAll, CalleeA, E.ok, Es.ok, Oe.ok, Es.len, and_true, true_and, Nat.zero_add, Nat.reduceAdd]) | apply And.intro)
abbrev P_l_bent : List Str := ["_law_pot_here", "_law_thing", "_law_deep"]
abbrev NN_l_bent : List Str := ["_law_pot_here", "_law_thing", "_law_deep", "_law_way", "_law_at"]
theorem sc_l_bent : FnScope NN_l_bent P_l_bent (defScope s_l_bent) := C8.fnScope_by (by decide +kernel)
theorem mt_l_bent (d : Nat) (c : Cs) : (ir_l_bent d c).mt ⟨NN_l_bent, defScope s_l_bent, fun _ => true⟩ (defBody s_l_bent) = true := by kernel_rfl
theorem len_l_bent (d : Nat) (c : Cs) (ds : List D) (M : Mp) (Q : DQ) (h : S_l_bent_ (d + 1) c ds M Q) : ds.length = P_l_bent.length := by
  unfold S_l_bent_ at h
  repeat' (first | (obtain ⟨rfl, _⟩ := h; rfl; done) | (refine Or.elim h (fun h => ?_) (fun h => ?_)) | (obtain ⟨_, h⟩ := h))
theorem ok_l_bent {P : Program} {w : World} {K : PySem.W.Frag} {mg : Str → Option Value} {base : Heap} {f : Addr} {fd : FuncData} {c : Cs} {kws : List (Str × V)} (L : Lw P w K mg base c) (F : FunD K "_law_bent" "_law_bent" (defArgs s_l_bent) (defBody s_l_bent) (defScope s_l_bent) [] kws f fd) (hm : mg "_law_bent" = some (.ref f)) (hb : Binds K fd P_l_bent []) (h0 : Pr P w K mg base 3 "_law_odd" 2 [] (S_l_odd c)) (h1 : Pr P w K mg base 1 "_law_take" 2 [] (S_l_take c)) : ∀ d, FnOk P w K mg base CX0 (4 + d) f fd P_l_bent (spD K (S_l_bent_ (d + 1) c)) := by
  intro d
  induction d with
  | zero =>
    have hs : Pr P w K mg base (3) "_law_bent" 3 [] (S_l_bent_ 0 c) := Pr.never hm F.kp fun _ _ _ h => h
    refine fn_okP (k := 3) F sc_l_bent (ir_l_bent 0 c) (len_l_bent 0 c) (mt_l_bent 0 c) (fun A hr => ?_) (use_l_bent 0 c)
    have qs := hs A (hr.mono (Nat.le_refl _))
    have qh0 := h0 A (hr.mono (by omega))
    have qh1 := h1 A (hr.mono (by omega))
    simp only [ir_l_bent, Ss.ok, S.ok, E.ok, Es.ok, Oe.ok, Wk.ok, Es.len, Blt.nm, Blt.isRepr, Bool.false_eq_true, false_implies, and_true, true_and, Nat.zero_add, Nat.reduceAdd, List.length_cons, List.length_nil]
    repeat' (first | exact trivial | rfl | exact qs | exact qh0 | exact qh1 | exact L.b_len | exact isaB_ok L.b_isinstance L.b_tuple (by decide) | exact L.cP | exact L.cw | apply And.intro)
  | succ d ih =>
    have hs : Pr P w K mg base (4 + d) "_law_bent" 3 [] (S_l_bent_ (d + 1) c) := Pr.fn ih hm F.kp hb 3
    refine fn_okP (k := 4 + d) F sc_l_bent (ir_l_bent (d + 1) c) (len_l_bent (d + 1) c) (mt_l_bent (d + 1) c) (fun A hr => ?_) (use_l_bent (d + 1) c)
    have qs := hs A (hr.mono (Nat.le_refl _))
    have qh0 := h0 A (hr.mono (by omega))
    have qh1 := h1 A (hr.mono (by omega))
    simp only [ir_l_bent, Ss.ok, S.ok, E.ok, Es.ok, Oe.ok, Wk.ok, Es.len, Blt.nm, Blt.isRepr, Bool.false_eq_true, false_implies, and_true, true_and, Nat.zero_add, Nat.reduceAdd, List.length_cons, List.length_nil]
    repeat' (first | exact trivial | rfl | exact qs | exact qh0 | exact qh1 | exact L.b_len | exact isaB_ok L.b_isinstance L.b_tuple (by decide) | exact L.cP | exact L.cw | apply And.intro)
abbrev P_l_is_called : List Str := ["_law_thing"]
abbrev NN_l_is_called : List Str := ["_law_thing", "_law_letter"]
theorem sc_l_is_called : FnScope NN_l_is_called P_l_is_called (defScope s_l_is_called) := C8.fnScope_by (by decide +kernel)
theorem mt_l_is_called (c : Cs) : (ir_l_is_called c).mt ⟨NN_l_is_called, defScope s_l_is_called, fun _ => true⟩ (defBody s_l_is_called) = true := by kernel_rfl
theorem len_l_is_called (c : Cs) (ds : List D) (M : Mp) (Q : DQ) (h : S_l_is_called c ds M Q) : ds.length = P_l_is_called.length := by
  unfold S_l_is_called at h
  repeat' (first | (obtain ⟨rfl, _⟩ := h; rfl; done) | (refine Or.elim h (fun h => ?_) (fun h => ?_)) | (obtain ⟨_, h⟩ := h))
theorem ok_l_is_called {P : Program} {w : World} {K : PySem.W.Frag} {mg : Str → Option Value} {base : Heap} {f : Addr} {fd : FuncData} {c : Cs} {kws : List (Str × V)} (L : Lw P w K mg base c) (F : FunD K "_law_is_called" "_law_is_called" (defArgs s_l_is_called) (defBody s_l_is_called) (defScope s_l_is_called) [] kws f fd)  : FnOk P w K mg base CX0 1 f fd P_l_is_called (spD K (S_l_is_called c)) := by
  refine fn_okP (k := 0) F sc_l_is_called (ir_l_is_called c) (len_l_is_called c) (mt_l_is_called c) (fun A hr => ?_) (use_l_is_called c)
  simp only [ir_l_is_called, Ss.ok, S.ok, E.ok, Es.ok, Oe.ok, Wk.ok, Es.len, Blt.nm, Blt.isRepr, Bool.false_eq_true, false_implies, and_true, true_and, Nat.zero_add, Nat.reduceAdd, List.length_cons, List.length_nil]
  repeat' (first | exact trivial | rfl | exact L.b_all | exact L.b_len | exact isaB_ok L.b_isinstance L.b_str (by decide) | exact L.cP | exact L.cw | apply And.intro)
abbrev P_l_is_number : List Str := ["_law_thing", "_law_low", "_law_high"]
abbrev NN_l_is_number : List Str := ["_law_thing", "_law_low", "_law_high"]
theorem sc_l_is_number : FnScope NN_l_is_number P_l_is_number (defScope s_l_is_number) := C8.fnScope_by (by decide +kernel)
theorem mt_l_is_number (c : Cs) : (ir_l_is_number c).mt ⟨NN_l_is_number, defScope s_l_is_number, fun _ => true⟩ (defBody s_l_is_number) = true := by kernel_rfl
theorem len_l_is_number (c : Cs) (ds : List D) (M : Mp) (Q : DQ) (h : S_l_is_number c ds M Q) : ds.length = P_l_is_number.length := by
  unfold S_l_is_number at h
  repeat' (first | (obtain ⟨rfl, _⟩ := h; rfl; done) | (refine Or.elim h (fun h => ?_) (fun h => ?_)) | (obtain ⟨_, h⟩ := h))
theorem ok_l_is_number {P : Program} {w : World} {K : PySem.W.Frag} {mg : Str → Option Value} {base : Heap} {f : Addr} {fd : FuncData} {c : Cs} {kws : List (Str × V)} (L : Lw P w K mg base c) (F : FunD K "_law_is_number" "_law_is_number" (defArgs s_l_is_number) (defBody s_l_is_number) (defScope s_l_is_number) [] kws f fd)  : FnOk P w K mg base CX0 1 f fd P_l_is_number (spD K (S_l_is_number c)) := by
  refine fn_okP (k := 0) F sc_l_is_number (ir_l_is_number c) (len_l_is_number c) (mt_l_is_number c) (fun A hr => ?_) (use_l_is_number c)
  simp only [ir_l_is_number, Ss.ok, S.ok, E.ok, Es.ok, Oe.ok, Wk.ok, Es.len, Blt.nm, Blt.isRepr, Bool.false_eq_true, false_implies, and_true, true_and, Nat.zero_add, Nat.reduceAdd, List.length_cons, List.length_nil]
  repeat' (first | exact trivial | rfl | exact isaB_ok L.b_isinstance L.b_bool (by decide) | exact isaB_ok L.b_isinstance L.b_int (by decide) | exact L.cP | exact L.cw | apply And.intro)
abbrev P_l_rises : List Str := ["_law_some"]
abbrev NN_l_rises : List Str := ["_law_some", "_law_at"]
theorem sc_l_rises : FnScope NN_l_rises P_l_rises (defScope s_l_rises) := C8.fnScope_by (by decide +kernel)
theorem mt_l_rises (c : Cs) : (ir_l_rises c).mt ⟨NN_l_rises, defScope s_l_rises, fun _ => true⟩ (defBody s_l_rises) = true := by kernel_rfl
theorem len_l_rises (c : Cs) (ds : List D) (M : Mp) (Q : DQ) (h : S_l_rises c ds M Q) : ds.length = P_l_rises.length := by
  unfold S_l_rises at h
  repeat' (first | (obtain ⟨rfl, _⟩ := h; rfl; done) | (refine Or.elim h (fun h => ?_) (fun h => ?_)) | (obtain ⟨_, h⟩ := h))
theorem ok_l_rises {P : Program} {w : World} {K : PySem.W.Frag} {mg : Str → Option Value} {base : Heap} {f : Addr} {fd : FuncData} {c : Cs} {kws : List (Str × V)} (L : Lw P w K mg base c) (F : FunD K "_law_rises" "_law_rises" (defArgs s_l_rises) (defBody s_l_rises) (defScope s_l_rises) [] kws f fd)  : FnOk P w K mg base CX0 1 f fd P_l_rises (spD K (S_l_rises c)) := by
  refine fn_okP (k := 0) F sc_l_rises (ir_l_rises c) (len_l_rises c) (mt_l_rises c) (fun A hr => ?_) (use_l_rises c)
  simp only [ir_l_rises, Ss.ok, S.ok, E.ok, Es.ok, Oe.ok, Wk.ok, Es.len, Blt.nm, Blt.isRepr, Bool.false_eq_true, false_implies, and_true, true_and, Nat.zero_add, Nat.reduceAdd, List.length_cons, List.length_nil]
  repeat' (first | exact trivial | rfl | exact L.b_all | exact L.b_len | exact L.b_range | exact L.cP | exact L.cw | apply And.intro)
abbrev P_l_are_ties : List Str := ["_law_thing", "_law_many", "_law_size", "_law_most"]
abbrev NN_l_are_ties : List Str := ["_law_thing", "_law_many", "_law_size", "_law_most", "_law_one", "_law_spot"]
theorem sc_l_are_ties : FnScope NN_l_are_ties P_l_are_ties (defScope s_l_are_ties) := C8.fnScope_by (by decide +kernel)
theorem mt_l_are_ties (c : Cs) : (ir_l_are_ties c).mt ⟨NN_l_are_ties, defScope s_l_are_ties, fun _ => true⟩ (defBody s_l_are_ties) = true := by kernel_rfl
theorem len_l_are_ties (c : Cs) (ds : List D) (M : Mp) (Q : DQ) (h : S_l_are_ties c ds M Q) : ds.length = P_l_are_ties.length := by
  unfold S_l_are_ties at h
  repeat' (first | (obtain ⟨rfl, _⟩ := h; rfl; done) | (refine Or.elim h (fun h => ?_) (fun h => ?_)) | (obtain ⟨_, h⟩ := h))
theorem ok_l_are_ties {P : Program} {w : World} {K : PySem.W.Frag} {mg : Str → Option Value} {base : Heap} {f : Addr} {fd : FuncData} {c : Cs} {kws : List (Str × V)} (L : Lw P w K mg base c) (F : FunD K "_law_are_ties" "_law_are_ties" (defArgs s_l_are_ties) (defBody s_l_are_ties) (defScope s_l_are_ties) [] kws f fd) (h0 : Pr P w K mg base 1 "_law_is_called" 1 [] (S_l_is_called c)) (h1 : Pr P w K mg base 1 "_law_is_number" 3 [] (S_l_is_number c)) (h2 : Pr P w K mg base 1 "_law_rises" 1 [] (S_l_rises c)) : FnOk P w K mg base CX0 2 f fd P_l_are_ties (spD K (S_l_are_ties c)) := by
  refine fn_okP (k := 1) F sc_l_are_ties (ir_l_are_ties c) (len_l_are_ties c) (mt_l_are_ties c) (fun A hr => ?_) (use_l_are_ties c)
  have qh0 := h0 A (hr.mono (by decide))
  have qh1 := h1 A (hr.mono (by decide))
  have qh2 := h2 A (hr.mono (by decide))
  simp only [ir_l_are_ties, Ss.ok, S.ok, E.ok, Es.ok, Oe.ok, Wk.ok, Es.len, Blt.nm, Blt.isRepr, Bool.false_eq_true, false_implies, and_true, true_and, Nat.zero_add, Nat.reduceAdd, List.length_cons, List.length_nil]
  repeat' (first | exact trivial | rfl | exact qh0 | exact qh1 | exact qh2 | exact L.b_all | exact L.b_len | exact isaB_ok L.b_isinstance L.b_tuple (by decide) | exact L.cP | exact L.cw | apply And.intro)
abbrev P_l_due : List Str := ["_law_many", "_law_found", "_law_named"]
abbrev NN_l_due : List Str := ["_law_many", "_law_found", "_law_named"]
theorem sc_l_due : FnScope NN_l_due P_l_due (defScope s_l_due) := C8.fnScope_by (by decide +kernel)
theorem mt_l_due (c : Cs) : (ir_l_due c).mt ⟨NN_l_due, defScope s_l_due, fun _ => true⟩ (defBody s_l_due) = true := by kernel_rfl
theorem len_l_due (c : Cs) (ds : List D) (M : Mp) (Q : DQ) (h : S_l_due c ds M Q) : ds.length = P_l_due.length := by
  unfold S_l_due at h
  repeat' (first | (obtain ⟨rfl, _⟩ := h; rfl; done) | (refine Or.elim h (fun h => ?_) (fun h => ?_)) | (obtain ⟨_, h⟩ := h))
theorem ok_l_due {P : Program} {w : World} {K : PySem.W.Frag} {mg : Str → Option Value} {base : Heap} {f : Addr} {fd : FuncData} {c : Cs} {kws : List (Str × V)} (L : Lw P w K mg base c) (F : FunD K "_law_due" "_law_due" (defArgs s_l_due) (defBody s_l_due) (defScope s_l_due) [] kws f fd) (h0 : Pr P w K mg base 2 "_law_are_ties" 4 [] (S_l_are_ties c)) (h1 : Pr P w K mg base 1 "_law_is_number" 3 [] (S_l_is_number c)) : FnOk P w K mg base CX0 3 f fd P_l_due (spD K (S_l_due c)) := by
  refine fn_okP (k := 2) F sc_l_due (ir_l_due c) (len_l_due c) (mt_l_due c) (fun A hr => ?_) (use_l_due c)
  have qh0 := h0 A (hr.mono (by decide))
  have qh1 := h1 A (hr.mono (by decide))
  simp only [ir_l_due, Ss.ok, S.ok, E.ok, Es.ok, Oe.ok, Wk.ok, Es.len, Blt.nm, Blt.isRepr, Bool.false_eq_true, false_implies, and_true, true_and, Nat.zero_add, Nat.reduceAdd, List.length_cons, List.length_nil]
  repeat' (first | exact trivial | rfl | exact qh0 | exact qh1 | exact L.cP | exact L.cw | apply And.intro)
abbrev P_Net_len : List Str := ["self"]
abbrev NN_Net_len : List Str := ["self"]
theorem sc_Net_len : FnScope NN_Net_len P_Net_len (defScope s_Net_len) := C8.fnScope_by (by decide +kernel)
theorem mt_Net_len (c : Cs) : (ir_Net_len c).mt ⟨NN_Net_len, defScope s_Net_len, fun _ => true⟩ (defBody s_Net_len) = true := by kernel_rfl
theorem len_Net_len (c : Cs) (ds : List D) (M : Mp) (Q : DQ) (h : S_Net_len_ c ds M Q) : ds.length = P_Net_len.length := by
  unfold S_Net_len_ at h
  repeat' (first | (obtain ⟨rfl, _⟩ := h; rfl; done) | (refine Or.elim h (fun h => ?_) (fun h => ?_)) | (obtain ⟨_, h⟩ := h))
theorem ok_Net_len {P : Program} {w : World} {K : PySem.W.Frag} {mg : Str → Option Value} {base : Heap} {f : Addr} {fd : FuncData} {c : Cs} {kws : List (Str × V)} (L : Lw P w K mg base c) (F : FunD K "__len__" "Net.__len__" (defArgs s_Net_len) (defBody s_Net_len) (defScope s_Net_len) [] kws f fd)  : FnOk P w K mg base CX0 1 f fd P_Net_len (spD K (S_Net_len_ c)) := by
  refine fn_okP (k := 0) F sc_Net_len (ir_Net_len c) (len_Net_len c) (mt_Net_len c) (fun A hr => ?_) (use_Net_len c)
  simp only [ir_Net_len, Ss.ok, S.ok, E.ok, Es.ok, Oe.ok, Wk.ok, Es.len, Blt.nm, Blt.isRepr, Bool.false_eq_true, false_implies, and_true, true_and, Nat.zero_add, Nat.reduceAdd, List.length_cons, List.length_nil]
  repeat' (first | exact trivial | rfl | exact L.b_len | exact L.f_Net_knots | exact L.cP | exact L.cw | apply And.intro)
abbrev P_NoNet_init : List Str := ["self", "field"]
abbrev NN_NoNet_init : List Str := ["self", "field"]
theorem sc_NoNet_init : FnScope NN_NoNet_init P_NoNet_init (defScope s_NoNet_init) := C8.fnScope_by (by decide +kernel)
theorem mt_NoNet_init : excB ⟨NN_NoNet_init, defScope s_NoNet_init, fun _ => true⟩ "HouseError" (some "field") (defBody s_NoNet_init) = true := by kernel_rfl
theorem mt_Net_init_X (c : Cs) : (irX_Net_init c).mt ⟨NN_Net_init, defScope s_Net_init, fun _ => true⟩ (defBody s_Net_init) = true := by kernel_rfl
theorem len_Net_init_X (c : Cs) (ds : List D) (M : Mp) (Q : DQ) (E : DXE) (h : SX_Net_init c ds M Q E) : ds.length = P_Net_init.length := by
  unfold SX_Net_init at h
  repeat' (first | (obtain ⟨rfl, _⟩ := h; rfl; done) | (refine Or.elim h (fun h => ?_) (fun h => ?_)) | (obtain ⟨_, h⟩ := h))
theorem ok_Net_init_X {P : Program} {w : World} {K : PySem.W.Frag} {mg : Str → Option Value} {base : Heap} {f : Addr} {fd : FuncData} {c : Cs} {kws : List (Str × V)} (L : Lw P w K mg base c) (F : FunD K "__init__" "Net.__init__" (defArgs s_Net_init) (defBody s_Net_init) (defScope s_Net_init) [] kws f fd) (h0 : Pr P w K mg base 3 "are_ties" 4 [] (S_are_ties c)) (h1 : Pr P w K mg base 1 "is_whole" 3 [] (S_is_whole c)) (h2 : PrE P w K mg base 2 "NoNet" (c.ex "NoNet") (some "field")) : FnOk P w K mg base (L2.CX P w) 4 f fd P_Net_init (spDX K (SX_Net_init c)) := by
  refine fn_okX (k := 3) F sc_Net_init (irX_Net_init c) (len_Net_init_X c) (mt_Net_init_X c) (fun A hr => ?_) (useX_Net_init c)
  have qh0 := h0 A (hr.mono (by decide))
  have qh1 := h1 A (hr.mono (by decide))
  have qh2 := h2 A (hr.mono (by decide))
  simp only [irX_Net_init, XSs.ok, XS.ok, XE.ok, Ss.ok, S.ok, E.ok, Es.ok, Oe.ok, Wk.ok, Es.len, Blt.nm, Blt.isRepr, Bool.false_eq_true, false_implies, and_true, true_and, Nat.zero_add, Nat.reduceAdd, List.length_cons, List.length_nil]
  repeat' (first | exact trivial | rfl | exact qh0 | exact qh1 | exact qh2 | exact L.g_MOST_KNOTS | exact L.g_MOST_LABELS | exact L.g_MOST_LINKS | exact L.f_Net_knots | exact L.f_Net_labels | exact L.f_Net_links | exact L.cP | exact L.cw | apply And.intro)
abbrev P_l_right : List Str := ["_law_many", "_law_found", "_law_named"]
abbrev NN_l_right : List Str := ["_law_many", "_law_found", "_law_named", "error", "_law_held", "_law_due_here", "_law_told", "_law_caught"]
theorem sc_l_right : FnScope NN_l_right P_l_right (defScope s_l_right) := C8.fnScope_by (by decide +kernel)
theorem mt_l_right (c : Cs) : (ir_l_right c).mt ⟨NN_l_right, defScope s_l_right, fun _ => true⟩ (defBody s_l_right) = true := by kernel_rfl
theorem len_l_right (c : Cs) (ds : List D) (M : Mp) (Q : DQ) (h : S_l_right c ds M Q) : ds.length = P_l_right.length := by
  unfold S_l_right at h
  repeat' (first | (obtain ⟨rfl, _⟩ := h; rfl; done) | (refine Or.elim h (fun h => ?_) (fun h => ?_)) | (obtain ⟨_, h⟩ := h))
theorem ok_l_right {P : Program} {w : World} {K : PySem.W.Frag} {mg : Str → Option Value} {base : Heap} {f : Addr} {fd : FuncData} {c : Cs} {kws : List (Str × V)} (L : Lw P w K mg base c) (F : FunD K "_law_right" "_law_right" (defArgs s_l_right) (defBody s_l_right) (defScope s_l_right) [] kws f fd) (h0 : Pr P w K mg base 3 "_law_due" 3 [] (S_l_due c)) (h1 : PrO P w K mg base 2 c.Net "__len__" (S_Net_len_ c)) (h2 : PrX P w K mg base 5 "Net" 1 ["links", "labels"] (SX_Net_K1_links_labels c)) : FnG P w K mg base 6 f fd P_l_right (S_l_right c) := by
  refine fn_GC (k := 5) F sc_l_right (ir_l_right c) (len_l_right c) (mt_l_right c) (fun A hr hg => ?_) (use_l_right c)
  have qh0 := h0 A (hr.mono (by decide))
  have qh1 := h1 A (hr.mono (by decide))
  have qh2 := h2 A (hr.mono (by decide))
  simp only [ir_l_right, XSs.ok, XS.ok, XE.ok, Ss.ok, S.ok, E.ok, Es.ok, Oe.ok, Wk.ok, Es.len, Blt.nm, Blt.isRepr, Bool.false_eq_true, false_implies, and_true, true_and, Nat.zero_add, Nat.reduceAdd, List.length_cons, List.length_nil]
  repeat' (first | exact trivial | rfl | exact qh0 | exact qh1 | exact qh2 | exact isaE_bty L.b_isinstance L.b_ValueError L.xs_0 | exact isaE_own L.b_isinstance L.mE_NoNet L.xs_1 | exact L.mE_HouseError | exact L.xm_0 | exact L.xf_0 | exact L.b_repr | exact L.b_len | exact L.f_Net_knots | exact L.f_Net_labels | exact L.f_Net_links | exact L.cP | exact L.cw | exact fun _ => hg | exact hg | apply And.intro)
abbrev P_l_edges_right : List Str := []
abbrev NN_l_edges_right : List Str := ["_law_every", "_law_one", "_law_marks", "_law_letter", "_law_other", "_law_spot"]
theorem sc_l_edges_right : FnScope NN_l_edges_right P_l_edges_right (defScope s_l_edges_right) := C8.fnScope_by (by decide +kernel)
theorem mt_l_edges_right (c : Cs) : (ir_l_edges_right c).mt ⟨NN_l_edges_right, defScope s_l_edges_right, fun _ => true⟩ (defBody s_l_edges_right) = true := by kernel_rfl
theorem len_l_edges_right (c : Cs) (ds : List D) (M : Mp) (Q : DQ) (h : S_l_edges_right c ds M Q) : ds.length = P_l_edges_right.length := by
  unfold S_l_edges_right at h
  repeat' (first | (obtain ⟨rfl, _⟩ := h; rfl; done) | (refine Or.elim h (fun h => ?_) (fun h => ?_)) | (obtain ⟨_, h⟩ := h))
theorem ok_l_edges_right {P : Program} {w : World} {K : PySem.W.Frag} {mg : Str → Option Value} {base : Heap} {f : Addr} {fd : FuncData} {c : Cs} {kws : List (Str × V)} (L : Lw P w K mg base c) (F : FunD K "_law_edges_right" "_law_edges_right" (defArgs s_l_edges_right) (defBody s_l_edges_right) (defScope s_l_edges_right) [] kws f fd) (h0 : PrG P w K mg base 6 "_law_right" 3 [] (S_l_right c)) : FnG P w K mg base 7 f fd P_l_edges_right (S_l_edges_right c) := by
  refine fn_G (k := 6) F sc_l_edges_right (ir_l_edges_right c) (len_l_edges_right c) (mt_l_edges_right c) (fun A hr hg => ?_) (use_l_edges_right c)
  have qh0 := h0 A (hr.mono (by decide)) hg
  simp only [ir_l_edges_right, Ss.ok, S.ok, E.ok, Es.ok, Oe.ok, Wk.ok, Es.len, Blt.nm, Blt.isRepr, Bool.false_eq_true, false_implies, and_true, true_and, Nat.zero_add, Nat.reduceAdd, List.length_cons, List.length_nil]
  repeat' (first | exact trivial | rfl | exact qh0 | exact L.b_tuple | exact L.b_range | exact L.cP | exact L.cw | apply And.intro)
abbrev P_l_names : List Str := ["_law_pot_here", "_law_many"]
abbrev NN_l_names : List Str := ["_law_pot_here", "_law_many", "_law_stem", "_law_letters", "_law_at", "_law_first", "_law_leap", "_law_k", "_law_letter"]
theorem sc_l_names : FnScope NN_l_names P_l_names (defScope s_l_names) := C8.fnScope_by (by decide +kernel)
theorem mt_l_names (c : Cs) : (ir_l_names c).mt ⟨NN_l_names, defScope s_l_names, fun _ => true⟩ (defBody s_l_names) = true := by kernel_rfl
theorem len_l_names (c : Cs) (ds : List D) (M : Mp) (Q : DQ) (h : S_l_names c ds M Q) : ds.length = P_l_names.length := by
  unfold S_l_names at h
  repeat' (first | (obtain ⟨rfl, _⟩ := h; rfl; done) | (refine Or.elim h (fun h => ?_) (fun h => ?_)) | (obtain ⟨_, h⟩ := h))
theorem ok_l_names {P : Program} {w : World} {K : PySem.W.Frag} {mg : Str → Option Value} {base : Heap} {f : Addr} {fd : FuncData} {c : Cs} {kws : List (Str × V)} (L : Lw P w K mg base c) (F : FunD K "_law_names" "_law_names" (defArgs s_l_names) (defBody s_l_names) (defScope s_l_names) [] kws f fd) (h0 : Pr P w K mg base 2 "_law_of" 2 [] (S_l_of c)) (h1 : Pr P w K mg base 1 "_law_take" 2 [] (S_l_take c)) : FnOk P w K mg base CX0 3 f fd P_l_names (spD K (S_l_names c)) := by
  refine fn_okP (k := 2) F sc_l_names (ir_l_names c) (len_l_names c) (mt_l_names c) (fun A hr => ?_) (use_l_names c)
  have qh0 := h0 A (hr.mono (by decide))
  have qh1 := h1 A (hr.mono (by decide))
  simp only [ir_l_names, Ss.ok, S.ok, E.ok, Es.ok, Oe.ok, Wk.ok, Es.len, Blt.nm, Blt.isRepr, Bool.false_eq_true, false_implies, and_true, true_and, Nat.zero_add, Nat.reduceAdd, List.length_cons, List.length_nil]
  repeat' (first | exact trivial | rfl | exact qh0 | exact qh1 | exact L.b_len | exact L.b_list | exact L.b_sorted | exact L.b_range | exact L.cP | exact L.cw | apply And.intro)
abbrev P_l_all_pairs : List Str := ["_law_size"]
abbrev NN_l_all_pairs : List Str := ["_law_size", "_law_at"]
theorem sc_l_all_pairs : FnScope NN_l_all_pairs P_l_all_pairs (defScope s_l_all_pairs) := C8.fnScope_by (by decide +kernel)
theorem mt_l_all_pairs (c : Cs) : (ir_l_all_pairs c).mt ⟨NN_l_all_pairs, defScope s_l_all_pairs, fun _ => true⟩ (defBody s_l_all_pairs) = true := by kernel_rfl
theorem len_l_all_pairs (c : Cs) (ds : List D) (M : Mp) (Q : DQ) (h : S_l_all_pairs c ds M Q) : ds.length = P_l_all_pairs.length := by
  unfold S_l_all_pairs at h
  repeat' (first | (obtain ⟨rfl, _⟩ := h; rfl; done) | (refine Or.elim h (fun h => ?_) (fun h => ?_)) | (obtain ⟨_, h⟩ := h))
theorem ok_l_all_pairs {P : Program} {w : World} {K : PySem.W.Frag} {mg : Str → Option Value} {base : Heap} {f : Addr} {fd : FuncData} {c : Cs} {kws : List (Str × V)} (L : Lw P w K mg base c) (F : FunD K "_law_all_pairs" "_law_all_pairs" (defArgs s_l_all_pairs) (defBody s_l_all_pairs) (defScope s_l_all_pairs) [] kws f fd)  : FnOk P w K mg base CX0 1 f fd P_l_all_pairs (spD K (S_l_all_pairs c)) := by
  refine fn_okP (k := 0) F sc_l_all_pairs (ir_l_all_pairs c) (len_l_all_pairs c) (mt_l_all_pairs c) (fun A hr => ?_) (use_l_all_pairs c)
  simp only [ir_l_all_pairs, Ss.ok, S.ok, E.ok, Es.ok, Oe.ok, Wk.ok, Es.len, Blt.nm, Blt.isRepr, Bool.false_eq_true, false_implies, and_true, true_and, Nat.zero_add, Nat.reduceAdd, List.length_cons, List.length_nil]
  repeat' (first | exact trivial | rfl | exact L.b_range | exact L.cP | exact L.cw | apply And.intro)
abbrev P_l_pairs : List Str := ["_law_pot_here", "_law_size"]
abbrev NN_l_pairs : List Str := ["_law_pot_here", "_law_size", "_law_share", "_law_way", "_law_every", "_law_pair", "_law_mark"]
theorem sc_l_pairs : FnScope NN_l_pairs P_l_pairs (defScope s_l_pairs) := C8.fnScope_by (by decide +kernel)
theorem mt_l_pairs (c : Cs) : (ir_l_pairs c).mt ⟨NN_l_pairs, defScope s_l_pairs, fun _ => true⟩ (defBody s_l_pairs) = true := by kernel_rfl
theorem len_l_pairs (c : Cs) (ds : List D) (M : Mp) (Q : DQ) (h : S_l_pairs c ds M Q) : ds.length = P_l_pairs.length := by
  unfold S_l_pairs at h
  repeat' (first | (obtain ⟨rfl, _⟩ := h; rfl; done) | (refine Or.elim h (fun h => ?_) (fun h => ?_)) | (obtain ⟨_, h⟩ := h))
theorem ok_l_pairs {P : Program} {w : World} {K : PySem.W.Frag} {mg : Str → Option Value} {base : Heap} {f : Addr} {fd : FuncData} {c : Cs} {kws : List (Str × V)} (L : Lw P w K mg base c) (F : FunD K "_law_pairs" "_law_pairs" (defArgs s_l_pairs) (defBody s_l_pairs) (defScope s_l_pairs) [] kws f fd) (h0 : Pr P w K mg base 1 "_law_all_pairs" 1 [] (S_l_all_pairs c)) (h1 : Pr P w K mg base 1 "_law_take" 2 [] (S_l_take c)) : FnOk P w K mg base CX0 2 f fd P_l_pairs (spD K (S_l_pairs c)) := by
  refine fn_okP (k := 1) F sc_l_pairs (ir_l_pairs c) (len_l_pairs c) (mt_l_pairs c) (fun A hr => ?_) (use_l_pairs c)
  have qh0 := h0 A (hr.mono (by decide))
  have qh1 := h1 A (hr.mono (by decide))
  simp only [ir_l_pairs, Ss.ok, S.ok, E.ok, Es.ok, Oe.ok, Wk.ok, Es.len, Blt.nm, Blt.isRepr, Bool.false_eq_true, false_implies, and_true, true_and, Nat.zero_add, Nat.reduceAdd, List.length_cons, List.length_nil]
  repeat' (first | exact trivial | rfl | exact qh0 | exact qh1 | exact L.b_tuple | exact L.b_range | exact L.cP | exact L.cw | apply And.intro)
abbrev P_l_home : List Str := ["_law_pot_here", "_law_most"]
abbrev NN_l_home : List Str := ["_law_pot_here", "_law_most", "_law_laid", "_law_kept", "_law_name", "_law_size", "_law_names_here", "_law_mark"]
theorem sc_l_home : FnScope NN_l_home P_l_home (defScope s_l_home) := C8.fnScope_by (by decide +kernel)
theorem mt_l_home (c : Cs) : (ir_l_home c).mt ⟨NN_l_home, defScope s_l_home, fun _ => true⟩ (defBody s_l_home) = true := by kernel_rfl
theorem len_l_home (c : Cs) (ds : List D) (M : Mp) (Q : DQ) (h : S_l_home c ds M Q) : ds.length = P_l_home.length := by
  unfold S_l_home at h
  repeat' (first | (obtain ⟨rfl, _⟩ := h; rfl; done) | (refine Or.elim h (fun h => ?_) (fun h => ?_)) | (obtain ⟨_, h⟩ := h))
theorem ok_l_home {P : Program} {w : World} {K : PySem.W.Frag} {mg : Str → Option Value} {base : Heap} {f : Addr} {fd : FuncData} {c : Cs} {kws : List (Str × V)} (L : Lw P w K mg base c) (F : FunD K "_law_home" "_law_home" (defArgs s_l_home) (defBody s_l_home) (defScope s_l_home) [] kws f fd) (h0 : Pr P w K mg base 3 "_law_names" 2 [] (S_l_names c)) (h1 : Pr P w K mg base 2 "_law_pairs" 2 [] (S_l_pairs c)) (h2 : Pr P w K mg base 1 "_law_take" 2 [] (S_l_take c)) : FnOk P w K mg base CX0 4 f fd P_l_home (spD K (S_l_home c)) := by
  refine fn_okP (k := 3) F sc_l_home (ir_l_home c) (len_l_home c) (mt_l_home c) (fun A hr => ?_) (use_l_home c)
  have qh0 := h0 A (hr.mono (by decide))
  have qh1 := h1 A (hr.mono (by decide))
  have qh2 := h2 A (hr.mono (by decide))
  simp only [ir_l_home, Ss.ok, S.ok, E.ok, Es.ok, Oe.ok, Wk.ok, Es.len, Blt.nm, Blt.isRepr, Bool.false_eq_true, false_implies, and_true, true_and, Nat.zero_add, Nat.reduceAdd, List.length_cons, List.length_nil]
  repeat' (first | exact trivial | rfl | exact qh0 | exact qh1 | exact qh2 | exact L.b_tuple | exact L.b_range | exact L.cP | exact L.cw | apply And.intro)
abbrev P_l_mesh : List Str := ["_law_pot_here", "_law_home_here", "_law_most", "_law_ties"]
abbrev NN_l_mesh : List Str := ["_law_pot_here", "_law_home_here", "_law_most", "_law_ties", "_law_turn", "_law_many", "_law_found", "_law_named", "_law_rule", "_law_one", "_law_other"]
theorem sc_l_mesh : FnScope NN_l_mesh P_l_mesh (defScope s_l_mesh) := C8.fnScope_by (by decide +kernel)
theorem mt_l_mesh (c : Cs) : (ir_l_mesh c).mt ⟨NN_l_mesh, defScope s_l_mesh, fun _ => true⟩ (defBody s_l_mesh) = true := by kernel_rfl
theorem len_l_mesh (c : Cs) (ds : List D) (M : Mp) (Q : DQ) (h : S_l_mesh c ds M Q) : ds.length = P_l_mesh.length := by
  unfold S_l_mesh at h
  repeat' (first | (obtain ⟨rfl, _⟩ := h; rfl; done) | (refine Or.elim h (fun h => ?_) (fun h => ?_)) | (obtain ⟨_, h⟩ := h))
theorem ok_l_mesh {P : Program} {w : World} {K : PySem.W.Frag} {mg : Str → Option Value} {base : Heap} {f : Addr} {fd : FuncData} {c : Cs} {kws : List (Str × V)} (L : Lw P w K mg base c) (F : FunD K "_law_mesh" "_law_mesh" (defArgs s_l_mesh) (defBody s_l_mesh) (defScope s_l_mesh) [] kws f fd) (h0 : Pr P w K mg base 2 "_law_of" 2 [] (S_l_of c)) (h1 : Pr P w K mg base 1 "_law_take" 2 [] (S_l_take c)) : FnOk P w K mg base CX0 3 f fd P_l_mesh (spD K (S_l_mesh c)) := by
  refine fn_okP (k := 2) F sc_l_mesh (ir_l_mesh c) (len_l_mesh c) (mt_l_mesh c) (fun A hr => ?_) (use_l_mesh c)
  have qh0 := h0 A (hr.mono (by decide))
  have qh1 := h1 A (hr.mono (by decide))
  simp only [ir_l_mesh, Ss.ok, S.ok, E.ok, Es.ok, Oe.ok, Wk.ok, Es.len, Blt.nm, Blt.isRepr, Bool.false_eq_true, false_implies, and_true, true_and, Nat.zero_add, Nat.reduceAdd, List.length_cons, List.length_nil]
  repeat' (first | exact trivial | rfl | exact qh0 | exact qh1 | exact L.b_int | exact L.b_list | exact L.b_sorted | exact L.b_tuple | exact L.b_range | exact L.cP | exact L.cw | apply And.intro)
abbrev P_l_pot : List Str := ["_law_script", "_law_k"]
abbrev NN_l_pot : List Str := ["_law_script", "_law_k", "_law_cell", "_law_great"]
theorem sc_l_pot : FnScope NN_l_pot P_l_pot (defScope s_l_pot) := C8.fnScope_by (by decide +kernel)
theorem mt_l_pot (c : Cs) : (ir_l_pot c).mt ⟨NN_l_pot, defScope s_l_pot, fun _ => true⟩ (defBody s_l_pot) = true := by kernel_rfl
theorem len_l_pot (c : Cs) (ds : List D) (M : Mp) (Q : DQ) (h : S_l_pot c ds M Q) : ds.length = P_l_pot.length := by
  unfold S_l_pot at h
  repeat' (first | (obtain ⟨rfl, _⟩ := h; rfl; done) | (refine Or.elim h (fun h => ?_) (fun h => ?_)) | (obtain ⟨_, h⟩ := h))
theorem ok_l_pot {P : Program} {w : World} {K : PySem.W.Frag} {mg : Str → Option Value} {base : Heap} {f : Addr} {fd : FuncData} {c : Cs} {kws : List (Str × V)} (L : Lw P w K mg base c) (F : FunD K "_law_pot" "_law_pot" (defArgs s_l_pot) (defBody s_l_pot) (defScope s_l_pot) [] kws f fd)  : FnOk P w K mg base CX0 1 f fd P_l_pot (spD K (S_l_pot c)) := by
  refine fn_okG (k := 0) F sc_l_pot (ir_l_pot c) (len_l_pot c) (mt_l_pot c) (fun A hr => ?_) (useP_l_pot c)
  simp only [ir_l_pot, Ss.ok, S.ok, E.ok, Es.ok, Oe.ok, Wk.ok, Es.len, Blt.nm, Blt.isRepr, Bool.false_eq_true, false_implies, and_true, true_and, Nat.zero_add, Nat.reduceAdd, List.length_cons, List.length_nil]
  repeat' (first | exact trivial | rfl | exact L.b_abs | exact L.b_int | exact L.b_len | exact L.b_int | exact L.nd | exact L.cP | exact L.cw | apply And.intro)
abbrev P_law : List Str := ["_law_script"]
abbrev NN_law : List Str := ["_law_script", "_law_k", "_law_plain", "_law_pot_here", "_law_mesh_here", "_law_turn", "_law_at", "_law_thing"]
theorem sc_law : FnScope NN_law P_law (defScope s_law) := C8.fnScope_by (by decide +kernel)
theorem mt_law (c : Cs) : (ir_law c).mt ⟨NN_law, defScope s_law, fun _ => true⟩ (defBody s_law) = true := by kernel_rfl
theorem len_law (c : Cs) (ds : List D) (M : Mp) (Q : DQ) (h : S_law c ds M Q) : ds.length = P_law.length := by
  unfold S_law at h
  repeat' (first | (obtain ⟨rfl, _⟩ := h; rfl; done) | (refine Or.elim h (fun h => ?_) (fun h => ?_)) | (obtain ⟨_, h⟩ := h))
theorem ok_law {P : Program} {w : World} {K : PySem.W.Frag} {mg : Str → Option Value} {base : Heap} {f : Addr} {fd : FuncData} {c : Cs} {kws : List (Str × V)} (L : Lw P w K mg base c) (F : FunD K "law" "law" (defArgs s_law) (defBody s_law) (defScope s_law) [] kws f fd) (h0 : Pr P w K mg base 5 "Net" 1 [] (S_Net c)) (h1 : Pr P w K mg base 65 "_law_bent" 3 [] (S_l_bent c)) (h2 : PrG P w K mg base 7 "_law_edges_right" 0 [] (S_l_edges_right c)) (h3 : Pr P w K mg base 4 "_law_home" 2 [] (S_l_home c)) (h4 : Pr P w K mg base 3 "_law_mesh" 4 [] (S_l_mesh c)) (h5 : Pr P w K mg base 1 "_law_pot" 2 [] (S_l_pot c)) (h6 : PrG P w K mg base 6 "_law_right" 3 [] (S_l_right c)) (h7 : PrO P w K mg base 2 c.Net "__len__" (S_Net_len_ c)) : FnG P w K mg base 66 f fd P_law (S_law c) := by
  refine fn_G (k := 65) F sc_law (ir_law c) (len_law c) (mt_law c) (fun A hr hg => ?_) (use_law c)
  have qh0 := h0 A (hr.mono (by decide))
  have qh1 := h1 A (hr.mono (by decide))
  have qh2 := h2 A (hr.mono (by decide)) hg
  have qh3 := h3 A (hr.mono (by decide))
  have qh4 := h4 A (hr.mono (by decide))
  have qh5 := h5 A (hr.mono (by decide))
  have qh6 := h6 A (hr.mono (by decide)) hg
  have qh7 := h7 A (hr.mono (by decide))
  simp only [ir_law, Ss.ok, S.ok, E.ok, Es.ok, Oe.ok, Wk.ok, Es.len, Blt.nm, Blt.isRepr, Bool.false_eq_true, false_implies, and_true, true_and, Nat.zero_add, Nat.reduceAdd, List.length_cons, List.length_nil]
  repeat' (first | exact trivial | rfl | exact qh0 | exact qh1 | exact qh2 | exact qh3 | exact qh4 | exact qh5 | exact qh6 | exact qh7 | exact L.b_len | exact L.b_max | exact L.b_min | exact L.b_range | exact L.b_len | exact L.f_Net_knots | exact L.f_Net_labels | exact L.f_Net_links | exact L.cP | exact L.cw | apply And.intro)
theorem ob_eq (s : PySem.W.SharedT) : ob s = hk.obs s.abs := obsS_eq (HandSHeadRun.getT_eq s)
theorem facts {P : Program} {w : World} {K : PySem.W.Frag} {h : Heap} {mg : Str → Option Value} {f : Addr} (X : K.In h) (G : h.Ns mainGlobals mg) (hfa : mg ("law" : Str) = some (.ref f)) (cc : He.SaysX fa fn [] [] ex w h K) :
    ∃ fd : FuncData, noLst K = true ∧ (∀ (s : Shared) (v : Value), BindsTo s fd ⟨[v], []⟩ [("_law_script", v)]) ∧ ∀ base : Heap, K.In base → base.Ns mainGlobals mg → base.NoDigits → FnG P w K mg base 66 f fd ["_law_script"] (S_law ⟨He.ga K "House", He.ga K "Net", He.ga K "Striking", He.ga K "Growing", He.ga K "Yard", He.ga K "Desk", He.ga K, fun n => (He.cT K (n, none)).2, P, w⟩) := by
  have sd := cc.t.d
  have exs : ∀ b ∈ [noLst K, clsB K (He.ga K "Net"), etB K (kwAt ("Net", some "__init__") "links" K), etB K (kwAt ("Net", some "__init__") "labels" K), oexB K (He.ga K "NoNet"), basiB K (He.ga K "HouseError"), exsB K (.type "ValueError") [He.ga K "NoNet"] [], exsB K (.ref (He.ga K "NoNet")) [He.ga K "NoNet"] [], exmB K (He.ga K "HouseError") [He.ga K "NoNet"] [], xfdB K (He.ga K "NoNet") "field", xfdB K (He.ga K "NoNet") "field"], b = true := fun b hb => List.all_eq_true.mp cc.more b hb
  have x_0 : noLst K = true := exs _ (.head _)
  have x_1 : clsB K (He.ga K "Net") = true := exs _ (.tail _ (.head _))
  have x_2 : etB K (kwAt ("Net", some "__init__") "links" K) = true := exs _ (.tail _ (.tail _ (.head _)))
  have x_3 : etB K (kwAt ("Net", some "__init__") "labels" K) = true := exs _ (.tail _ (.tail _ (.tail _ (.head _))))
  have x_4 : oexB K (He.ga K "NoNet") = true := exs _ (.tail _ (.tail _ (.tail _ (.tail _ (.head _)))))
  have x_5 : basiB K (He.ga K "HouseError") = true := exs _ (.tail _ (.tail _ (.tail _ (.tail _ (.tail _ (.head _))))))
  have x_6 : exsB K (.type "ValueError") [He.ga K "NoNet"] [] = true := exs _ (.tail _ (.tail _ (.tail _ (.tail _ (.tail _ (.tail _ (.head _)))))))
  have x_7 : exsB K (.ref (He.ga K "NoNet")) [He.ga K "NoNet"] [] = true := exs _ (.tail _ (.tail _ (.tail _ (.tail _ (.tail _ (.tail _ (.tail _ (.head _))))))))
  have x_8 : exmB K (He.ga K "HouseError") [He.ga K "NoNet"] [] = true := exs _ (.tail _ (.tail _ (.tail _ (.tail _ (.tail _ (.tail _ (.tail _ (.tail _ (.head _)))))))))
  have x_9 : xfdB K (He.ga K "NoNet") "field" = true := exs _ (.tail _ (.tail _ (.tail _ (.tail _ (.tail _ (.tail _ (.tail _ (.tail _ (.tail _ (.head _))))))))))
  have x_10 : xfdB K (He.ga K "NoNet") "field" = true := exs _ (.tail _ (.tail _ (.tail _ (.tail _ (.tail _ (.tail _ (.tail _ (.tail _ (.tail _ (.tail _ (.head _)))))))))))
  obtain ⟨fd_are_rising, F_are_rising⟩ := sd.def_ 0 (d := d_are_rising) rfl
  obtain ⟨fd_is_whole, F_is_whole⟩ := sd.def_ 1 (d := d_is_whole) rfl
  obtain ⟨fd_are_whole, F_are_whole⟩ := sd.def_ 2 (d := d_are_whole) rfl
  obtain ⟨fd_is_name, F_is_name⟩ := sd.def_ 3 (d := d_is_name) rfl
  obtain ⟨fd_are_ties, F_are_ties⟩ := sd.def_ 4 (d := d_are_ties) rfl
  obtain ⟨fd_Net_init, F_Net_init⟩ := sd.def_ 5 (d := d_Net_init) rfl
  obtain ⟨fd_l_take, F_l_take⟩ := sd.def_ 6 (d := d_l_take) rfl
  obtain ⟨fd_l_of, F_l_of⟩ := sd.def_ 7 (d := d_l_of) rfl
  obtain ⟨fd_l_odd, F_l_odd⟩ := sd.def_ 8 (d := d_l_odd) rfl
  obtain ⟨fd_l_bent, F_l_bent⟩ := sd.def_ 9 (d := d_l_bent) rfl
  obtain ⟨fd_l_is_called, F_l_is_called⟩ := sd.def_ 10 (d := d_l_is_called) rfl
  obtain ⟨fd_l_is_number, F_l_is_number⟩ := sd.def_ 11 (d := d_l_is_number) rfl
  obtain ⟨fd_l_rises, F_l_rises⟩ := sd.def_ 12 (d := d_l_rises) rfl
  obtain ⟨fd_l_are_ties, F_l_are_ties⟩ := sd.def_ 13 (d := d_l_are_ties) rfl
  obtain ⟨fd_l_due, F_l_due⟩ := sd.def_ 14 (d := d_l_due) rfl
  obtain ⟨fd_Net_len, F_Net_len⟩ := sd.def_ 15 (d := d_Net_len) rfl
  obtain ⟨fd_NoNet_init, F_NoNet_init⟩ := sd.def_ 16 (d := d_NoNet_init) rfl
  obtain ⟨fd_l_right, F_l_right⟩ := sd.def_ 17 (d := d_l_right) rfl
  obtain ⟨fd_l_edges_right, F_l_edges_right⟩ := sd.def_ 18 (d := d_l_edges_right) rfl
  obtain ⟨fd_l_names, F_l_names⟩ := sd.def_ 19 (d := d_l_names) rfl
  obtain ⟨fd_l_all_pairs, F_l_all_pairs⟩ := sd.def_ 20 (d := d_l_all_pairs) rfl
  obtain ⟨fd_l_pairs, F_l_pairs⟩ := sd.def_ 21 (d := d_l_pairs) rfl
  obtain ⟨fd_l_home, F_l_home⟩ := sd.def_ 22 (d := d_l_home) rfl
  obtain ⟨fd_l_mesh, F_l_mesh⟩ := sd.def_ 23 (d := d_l_mesh) rfl
  obtain ⟨fd_l_pot, F_l_pot⟩ := sd.def_ 24 (d := d_l_pot) rfl
  obtain ⟨fd_law, F_law⟩ := sd.def_ 25 (d := d_law) rfl
  have m_are_rising := He.glo_ok X G (sd.fact 0 (f := .glo "are_rising") rfl)
  have m_is_whole := He.glo_ok X G (sd.fact 1 (f := .glo "is_whole") rfl)
  have m_are_whole := He.glo_ok X G (sd.fact 2 (f := .glo "are_whole") rfl)
  have m_is_name := He.glo_ok X G (sd.fact 3 (f := .glo "is_name") rfl)
  have m_are_ties := He.glo_ok X G (sd.fact 4 (f := .glo "are_ties") rfl)
  have m_l_take := He.glo_ok X G (sd.fact 5 (f := .glo "_law_take") rfl)
  have m_l_of := He.glo_ok X G (sd.fact 6 (f := .glo "_law_of") rfl)
  have m_l_odd := He.glo_ok X G (sd.fact 7 (f := .glo "_law_odd") rfl)
  have m_l_bent := He.glo_ok X G (sd.fact 8 (f := .glo "_law_bent") rfl)
  have m_l_is_called := He.glo_ok X G (sd.fact 9 (f := .glo "_law_is_called") rfl)
  have m_l_is_number := He.glo_ok X G (sd.fact 10 (f := .glo "_law_is_number") rfl)
  have m_l_rises := He.glo_ok X G (sd.fact 11 (f := .glo "_law_rises") rfl)
  have m_l_are_ties := He.glo_ok X G (sd.fact 12 (f := .glo "_law_are_ties") rfl)
  have m_l_due := He.glo_ok X G (sd.fact 13 (f := .glo "_law_due") rfl)
  have m_l_right := He.glo_ok X G (sd.fact 14 (f := .glo "_law_right") rfl)
  have m_l_edges_right := He.glo_ok X G (sd.fact 15 (f := .glo "_law_edges_right") rfl)
  have m_l_names := He.glo_ok X G (sd.fact 16 (f := .glo "_law_names") rfl)
  have m_l_all_pairs := He.glo_ok X G (sd.fact 17 (f := .glo "_law_all_pairs") rfl)
  have m_l_pairs := He.glo_ok X G (sd.fact 18 (f := .glo "_law_pairs") rfl)
  have m_l_home := He.glo_ok X G (sd.fact 19 (f := .glo "_law_home") rfl)
  have m_l_mesh := He.glo_ok X G (sd.fact 20 (f := .glo "_law_mesh") rfl)
  have m_l_pot := He.glo_ok X G (sd.fact 21 (f := .glo "_law_pot") rfl)
  have m_law := He.glo_ok X G (sd.fact 22 (f := .glo "law") rfl)
  have e := hfa.symm.trans m_law
  cases e
  have bA := FunD.bindsA (ps := P_law) F_law fun _ _ _ _ _ _ us hl => match us, hl with | [_], _ => rfl
  refine ⟨fd_law, x_0, fun s v => bA s [v] rfl, fun base _ _ hnd => ?_⟩
  let c : Cs := ⟨He.ga K "House", He.ga K "Net", He.ga K "Striking", He.ga K "Growing", He.ga K "Yard", He.ga K "Desk", He.ga K, fun n => (He.cT K (n, none)).2, P, w⟩
  have L : Lw P w K mg base c := {
    cP := rfl, cw := rfl, nd := hnd
    b_ValueError := He.free_ok X G (sd.fact 23 (f := .free "ValueError") rfl)
    b_abs := He.free_ok X G (sd.fact 24 (f := .free "abs") rfl)
    b_all := He.free_ok X G (sd.fact 25 (f := .free "all") rfl)
    b_bool := He.free_ok X G (sd.fact 26 (f := .free "bool") rfl)
    b_int := He.free_ok X G (sd.fact 27 (f := .free "int") rfl)
    b_isinstance := He.free_ok X G (sd.fact 28 (f := .free "isinstance") rfl)
    b_len := He.free_ok X G (sd.fact 29 (f := .free "len") rfl)
    b_list := He.free_ok X G (sd.fact 30 (f := .free "list") rfl)
    b_max := He.free_ok X G (sd.fact 31 (f := .free "max") rfl)
    b_min := He.free_ok X G (sd.fact 32 (f := .free "min") rfl)
    b_range := He.free_ok X G (sd.fact 33 (f := .free "range") rfl)
    b_repr := He.free_ok X G (sd.fact 34 (f := .free "repr") rfl)
    b_sorted := He.free_ok X G (sd.fact 35 (f := .free "sorted") rfl)
    b_str := He.free_ok X G (sd.fact 36 (f := .free "str") rfl)
    b_tuple := He.free_ok X G (sd.fact 37 (f := .free "tuple") rfl)
    b_zip := He.free_ok X G (sd.fact 38 (f := .free "zip") rfl)
    g_LETTERS := gld_str (He.str_ok X G (sd.fact 39 (f := .str "LETTERS" "abcdefghijklmnopqrstuvwxyz") rfl))
    g_MOST_KNOTS := gld_int (He.int_ok X G (sd.fact 40 (f := .int "MOST_KNOTS" 60) rfl))
    g_MOST_LABELS := gld_int (He.int_ok X G (sd.fact 41 (f := .int "MOST_LABELS" 400) rfl))
    g_MOST_LETTERS := gld_int (He.int_ok X G (sd.fact 42 (f := .int "MOST_LETTERS" 6) rfl))
    g_MOST_LINKS := gld_int (He.int_ok X G (sd.fact 43 (f := .int "MOST_LINKS" 700) rfl))
    m_Net := He.glo_ok X G (sd.fact 44 (f := .glo "Net") rfl)
    c_Net := clsB_ok (He.cls_ok (sd.fact 45 (f := .cls "Net") rfl)) x_1
    f_Net_knots := ⟨He.cls_ok (sd.fact 45 (f := .cls "Net") rfl), He.noat_ok (sd.fact 46 (f := .noat "Net" "knots") rfl)⟩
    f_Net_labels := ⟨He.cls_ok (sd.fact 45 (f := .cls "Net") rfl), He.noat_ok (sd.fact 47 (f := .noat "Net" "labels") rfl)⟩
    f_Net_links := ⟨He.cls_ok (sd.fact 45 (f := .cls "Net") rfl), He.noat_ok (sd.fact 48 (f := .noat "Net" "links") rfl)⟩
    mE_HouseError := He.glo_ok X G (sd.fact 49 (f := .glo "HouseError") rfl)
    mE_NoNet := He.glo_ok X G (sd.fact 50 (f := .glo "NoNet") rfl)
    bi_HouseError := basiB_ok (He.glo_ok X G (sd.fact 49 (f := .glo "HouseError") rfl)) x_5
    xs_0 := exsB_ok x_6
    xs_1 := exsB_ok x_7
    xm_0 := exmB_ok x_8
    xf_0 := xfdB_ok x_10
  }
  have k_are_rising := ok_are_rising L F_are_rising
  have b_are_rising : Binds K fd_are_rising P_are_rising [] := F_are_rising.bindsN fun _ _ _ _ _ _ us hl => match us, hl with | [_], _ => rfl
  have p_are_rising := fun n => Pr.fn k_are_rising m_are_rising F_are_rising.kp b_are_rising n
  have k_is_whole := ok_is_whole L F_is_whole
  have b_is_whole : Binds K fd_is_whole P_is_whole [] := F_is_whole.bindsN fun _ _ _ _ _ _ us hl => match us, hl with | [_, _, _], _ => rfl
  have p_is_whole := fun n => Pr.fn k_is_whole m_is_whole F_is_whole.kp b_is_whole n
  have k_are_whole := ok_are_whole L F_are_whole (p_is_whole 3)
  have b_are_whole : Binds K fd_are_whole P_are_whole [] := F_are_whole.bindsN fun _ _ _ _ _ _ us hl => match us, hl with | [_, _, _], _ => rfl
  have p_are_whole := fun n => Pr.fn k_are_whole m_are_whole F_are_whole.kp b_are_whole n
  have k_is_name := ok_is_name L F_is_name
  have b_is_name : Binds K fd_is_name P_is_name [] := F_is_name.bindsN fun _ _ _ _ _ _ us hl => match us, hl with | [_], _ => rfl
  have p_is_name := fun n => Pr.fn k_is_name m_is_name F_is_name.kp b_is_name n
  have k_are_ties := ok_are_ties L F_are_ties (p_are_rising 1) (p_are_whole 3) (p_is_name 1)
  have b_are_ties : Binds K fd_are_ties P_are_ties [] := F_are_ties.bindsN fun _ _ _ _ _ _ us hl => match us, hl with | [_, _, _, _], _ => rfl
  have p_are_ties := fun n => Pr.fn k_are_ties m_are_ties F_are_ties.kp b_are_ties n
  have k_Net_init := ok_Net_init L F_Net_init (p_are_ties 4) (p_is_whole 3)
  have p_Net_init_K1 : Pr P w K mg base 5 "Net" 1 [] (S_Net c) := Pr.makeD2 (nm := "links") (nm2 := "labels") (He.mkr_ok (sd.fact 52 (f := .mkr "Net") rfl)) k_Net_init L.m_Net x_2 x_3 (kbn_less2 F_Net_init 2 [] "links" "labels" _ _ (by simp [He.DefD.kws, d_Net_init, He.Dv.v]) (by simp [He.DefD.kws, d_Net_init, He.Dv.v]) fun _ _ _ _ _ _ us ws u v h1 h2 => match us, h1, ws, h2 with | [_, _], _, [], _ => ⟨_, _, _, _, _, _, rfl, rfl, _, _, _, _, _, _, rfl, rfl, rfl⟩)
  have k_l_take := ok_l_take L F_l_take
  have b_l_take : Binds K fd_l_take P_l_take [] := F_l_take.bindsN fun _ _ _ _ _ _ us hl => match us, hl with | [_, _], _ => rfl
  have p_l_take := fun n => Pr.fn k_l_take m_l_take F_l_take.kp b_l_take n
  have k_l_of := ok_l_of L F_l_of (p_l_take 2)
  have b_l_of : Binds K fd_l_of P_l_of [] := F_l_of.bindsN fun _ _ _ _ _ _ us hl => match us, hl with | [_, _], _ => rfl
  have p_l_of := fun n => Pr.fn k_l_of m_l_of F_l_of.kp b_l_of n
  have k_l_odd := ok_l_odd L F_l_odd (p_l_of 2)
  have b_l_odd : Binds K fd_l_odd P_l_odd [] := F_l_odd.bindsN fun _ _ _ _ _ _ us hl => match us, hl with | [_, _], _ => rfl
  have p_l_odd := fun n => Pr.fn k_l_odd m_l_odd F_l_odd.kp b_l_odd n
  have b_l_bent : Binds K fd_l_bent P_l_bent [] := F_l_bent.bindsN fun _ _ _ _ _ _ us hl => match us, hl with | [_, _, _], _ => rfl
  have k_l_bent := ok_l_bent L F_l_bent m_l_bent b_l_bent (p_l_odd 2) (p_l_take 2) 61
  have p_l_bent := fun n => Pr.fn k_l_bent m_l_bent F_l_bent.kp b_l_bent n
  have k_l_is_called := ok_l_is_called L F_l_is_called
  have b_l_is_called : Binds K fd_l_is_called P_l_is_called [] := F_l_is_called.bindsN fun _ _ _ _ _ _ us hl => match us, hl with | [_], _ => rfl
  have p_l_is_called := fun n => Pr.fn k_l_is_called m_l_is_called F_l_is_called.kp b_l_is_called n
  have k_l_is_number := ok_l_is_number L F_l_is_number
  have b_l_is_number : Binds K fd_l_is_number P_l_is_number [] := F_l_is_number.bindsN fun _ _ _ _ _ _ us hl => match us, hl with | [_, _, _], _ => rfl
  have p_l_is_number := fun n => Pr.fn k_l_is_number m_l_is_number F_l_is_number.kp b_l_is_number n
  have k_l_rises := ok_l_rises L F_l_rises
  have b_l_rises : Binds K fd_l_rises P_l_rises [] := F_l_rises.bindsN fun _ _ _ _ _ _ us hl => match us, hl with | [_], _ => rfl
  have p_l_rises := fun n => Pr.fn k_l_rises m_l_rises F_l_rises.kp b_l_rises n
  have k_l_are_ties := ok_l_are_ties L F_l_are_ties (p_l_is_called 1) (p_l_is_number 3) (p_l_rises 1)
  have b_l_are_ties : Binds K fd_l_are_ties P_l_are_ties [] := F_l_are_ties.bindsN fun _ _ _ _ _ _ us hl => match us, hl with | [_, _, _, _], _ => rfl
  have p_l_are_ties := fun n => Pr.fn k_l_are_ties m_l_are_ties F_l_are_ties.kp b_l_are_ties n
  have k_l_due := ok_l_due L F_l_due (p_l_are_ties 4) (p_l_is_number 3)
  have b_l_due : Binds K fd_l_due P_l_due [] := F_l_due.bindsN fun _ _ _ _ _ _ us hl => match us, hl with | [_, _, _], _ => rfl
  have p_l_due := fun n => Pr.fn k_l_due m_l_due F_l_due.kp b_l_due n
  have k_Net_len := ok_Net_len L F_Net_len
  have b_Net_len : Binds K fd_Net_len P_Net_len [] := F_Net_len.bindsN fun _ _ _ _ _ _ us hl => match us, hl with | [_], _ => rfl
  have o_Net_len := own_of k_Net_len b_Net_len (He.meth_ok (sd.fact 53 (f := .meth "Net" "__len__") rfl))
  have k_NoNet_init := exc_init (P := P) (w := w) (base := base) (CX := CX0) (k := 0) F_NoNet_init sc_NoNet_init rfl mt_NoNet_init L.bi_HouseError
  have b_NoNet_init : Binds K fd_NoNet_init P_NoNet_init [] := F_NoNet_init.bindsN fun _ _ _ _ _ _ us hl => match us, hl with | [_, _], _ => rfl
  have e_NoNet : PrE P w K mg base 2 "NoNet" (c.ex "NoNet") (some "field") := PrE.of k_NoNet_init L.mE_NoNet (oexB_ok x_4) (He.meth_ok (sd.fact 51 (f := .meth "NoNet" "__init__") rfl)) b_NoNet_init (fun g h => by cases h; exact (xfdB_ok x_10).no)
  have k_Net_init_X := ok_Net_init_X L F_Net_init (p_are_ties 4) (p_is_whole 3) e_NoNet
  have p_SX_Net_K1_links_labels : PrX P w K mg base 5 "Net" 1 ["links", "labels"] (SX_Net_K1_links_labels c) := PrX.make (He.mkr_ok (sd.fact 52 (f := .mkr "Net") rfl)) k_Net_init_X L.m_Net (kbn_of F_Net_init 2 ["links", "labels"] fun _ _ _ _ _ _ us ws h1 h2 => match us, h1, ws, h2 with | [_, _], _, [_, _], _ => rfl)
  have k_l_right := ok_l_right L F_l_right (p_l_due 3) o_Net_len p_SX_Net_K1_links_labels
  have b_l_right : Binds K fd_l_right P_l_right [] := F_l_right.bindsN fun _ _ _ _ _ _ us hl => match us, hl with | [_, _, _], _ => rfl
  have p_l_right := fun n => Pr.fnG k_l_right m_l_right F_l_right.kp b_l_right n
  have k_l_edges_right := ok_l_edges_right L F_l_edges_right (p_l_right 3)
  have b_l_edges_right : Binds K fd_l_edges_right P_l_edges_right [] := F_l_edges_right.bindsN fun _ _ _ _ _ _ us hl => match us, hl with | [], _ => rfl
  have p_l_edges_right := fun n => Pr.fnG k_l_edges_right m_l_edges_right F_l_edges_right.kp b_l_edges_right n
  have k_l_names := ok_l_names L F_l_names (p_l_of 2) (p_l_take 2)
  have b_l_names : Binds K fd_l_names P_l_names [] := F_l_names.bindsN fun _ _ _ _ _ _ us hl => match us, hl with | [_, _], _ => rfl
  have p_l_names := fun n => Pr.fn k_l_names m_l_names F_l_names.kp b_l_names n
  have k_l_all_pairs := ok_l_all_pairs L F_l_all_pairs
  have b_l_all_pairs : Binds K fd_l_all_pairs P_l_all_pairs [] := F_l_all_pairs.bindsN fun _ _ _ _ _ _ us hl => match us, hl with | [_], _ => rfl
  have p_l_all_pairs := fun n => Pr.fn k_l_all_pairs m_l_all_pairs F_l_all_pairs.kp b_l_all_pairs n
  have k_l_pairs := ok_l_pairs L F_l_pairs (p_l_all_pairs 1) (p_l_take 2)
  have b_l_pairs : Binds K fd_l_pairs P_l_pairs [] := F_l_pairs.bindsN fun _ _ _ _ _ _ us hl => match us, hl with | [_, _], _ => rfl
  have p_l_pairs := fun n => Pr.fn k_l_pairs m_l_pairs F_l_pairs.kp b_l_pairs n
  have k_l_home := ok_l_home L F_l_home (p_l_names 2) (p_l_pairs 2) (p_l_take 2)
  have b_l_home : Binds K fd_l_home P_l_home [] := F_l_home.bindsN fun _ _ _ _ _ _ us hl => match us, hl with | [_, _], _ => rfl
  have p_l_home := fun n => Pr.fn k_l_home m_l_home F_l_home.kp b_l_home n
  have k_l_mesh := ok_l_mesh L F_l_mesh (p_l_of 2) (p_l_take 2)
  have b_l_mesh : Binds K fd_l_mesh P_l_mesh [] := F_l_mesh.bindsN fun _ _ _ _ _ _ us hl => match us, hl with | [_, _, _, _], _ => rfl
  have p_l_mesh := fun n => Pr.fn k_l_mesh m_l_mesh F_l_mesh.kp b_l_mesh n
  have k_l_pot := ok_l_pot L F_l_pot
  have b_l_pot : Binds K fd_l_pot P_l_pot [] := F_l_pot.bindsN fun _ _ _ _ _ _ us hl => match us, hl with | [_, _], _ => rfl
  have p_l_pot := fun n => Pr.fn k_l_pot m_l_pot F_l_pot.kp b_l_pot n
  have k_law := ok_law L F_law (p_Net_init_K1) (p_l_bent 3) (p_l_edges_right 0) (p_l_home 2) (p_l_mesh 4) (p_l_pot 2) (p_l_right 3) o_Net_len
  have b_law : Binds K fd_law P_law [] := F_law.bindsN fun _ _ _ _ _ _ us hl => match us, hl with | [_], _ => rfl
  have p_law := fun n => Pr.fnG k_law m_law F_law.kp b_law n
  exact k_law
end DL
open PySem PySem.W PySem.Calls PyProof.Rows
theorem PySem.Challenge.cw_setshouse_k03_nets_of_anything_holds : PySem.Challenge.rw_setshouse_k03_nets_of_anything.Holds := by
  w_on; o_law
  refine HandSHeadRun.head_any (r := OpenLaw.row PySem.Challenge.rw_setshouse_k03_nets_of_anything) (q := view (OpenLaw.row PySem.Challenge.rw_setshouse_k03_nets_of_anything).prog [34]) (H := DL.hk) (ob := DL.ob) (M := 20000) (loose := DL.lo) (d := HandSHeadRun.topDef (OpenLaw.row PySem.Challenge.rw_setshouse_k03_nets_of_anything).prog 34) (kwd := []) DL.ob_eq
    (by kernel_rfl) (fun s => by kernel_rfl) DL.run (by kernel_rfl) (by kernel_rfl) (by kernel_rfl) (by rfl) (by first | assumption | decide +kernel) (by decide +kernel) ⟨rfl, rfl, rfl, rfl, rfl, by decide +kernel⟩ ?hw ?hc
  case hw => w_witness2
  case hc =>
    refine DL.walk_ofG (l := PySem.Challenge.rw_setshouse_k03_nets_of_anything) (n := 63) (k := 66) (x := "_law_script") rfl (by decide) (by kernel_rfl) ⟨rfl, by decide, by decide⟩ ?F
    intro w mg fa h Y G hmg0
    obtain ⟨K, KX, c⟩ := Y
    have hmg : mg ("law" : PySem.Str) = some (.ref fa) := by
      have e : (HandSHeadRun.topDef (OpenLaw.row PySem.Challenge.rw_setshouse_k03_nets_of_anything).prog 34).name = ("law" : PySem.Str) := by kernel_rfl
      rw [← e]
      exact hmg0
    obtain ⟨fd, hnl, hb, hF⟩ := DL.facts (P := (PySem.Challenge.rw_setshouse_k03_nets_of_anything).prog) (w := w) KX G hmg c
    exact ⟨K, fd, _, KX, hnl, hb, fun a ns M hl hM => ⟨a, ns, rfl, hM, Nat.le_trans hl (by decide), fun _ _ => rfl⟩, hF⟩
