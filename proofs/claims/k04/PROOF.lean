import PyProof.Rows.All
import Wide.All
import OpenK.AllK
import Wide.FinOn
import HandS.ForMost
import HandS.Flow
import HandS.Dict
import HandS.TupMul
import HandS.Deep
import HandS.TupAny
import HandS.TupLe
import HandS.Wide
import HandS.Style
import HandS.IsInst
import KE.SortData
import KE.DataCmp
import PyProof.ListStr
import HandS.Zip
import HandS.Zip0
import HandS.Defaults
import HandS.MakeKwOnly
import KE.KIntText
import PyProof.StrBlock2
import PyProof.Rows.Digits
import PyProof.ReprRoads
import HandS.OwnEq
import PyProof.InstEq
import HandS.DictComp
import HandS.Conv
import HandS.Small
import PyProof.DictMoreH
import HandS.SetFor
import HandS.Set
import HandS.Strs
import PyProof.Rows.SetFrom
import KE.KRevSl
import KE.KDictOf
import KE.KDictCopyH
import HandS.TupSets
import HandS.Keys
import KE.DataMinMax
import KE.KDictPairs
import KE.KDictKeyed
import HandS.More
import PyProof.TupleOfSeq
import KE.GoesMore
import KE.GoesZip
import KE.KDictZip
import KE.KDictItemsList
import HandS.Sort
import PyProof.DictTruth
import HandS.Exc
import HandS.ExcIs
import HandS.ExcField
import KE.KExcIs
import HandS.HeadEnd
import PyProof.FitsInt
import PyProof.StrLawsRepr
import HandS.Codes
import HandS.HeadHook4
import HandS.Head2
import HandS.Ends
import KE.KStateDown
import HandS.WordsExc
import HandS.Head0
import HandS.Head1
import HandS.HeadHook1
import HandS.HeadHook2
import PySem.Challenge.RW_setshouse_k04_whose_nets_they_are
set_option Elab.async false
set_option linter.all false
set_option maxRecDepth 100000
set_option maxHeartbeats 8000000
namespace DL
open PySem PySem.Spec PyProof.Rows L2
def kindNames : List String := ["NoneType", "bool", "int", "str", "tuple", "list", "dict"]
def clsB (K : PySem.W.Frag) (C : Addr) : Bool := He.eqO (PySem.W.findIn K (.ref C) "__class__") (some (some (.builtin "object.__class__"))) && (He.eqO (PySem.W.specialIn K (.builtin "object.__class__") "__get__") (some (some (.builtin "getset_descriptor.__get__"))) &&
  (decide (PySem.W.takesIn K (.builtin "object.__class__") = some true) && (decide (PySem.W.mroIn K C (.type "object") = some true) && (kindNames.all fun k => decide (PySem.W.kitOne K (.type k) (.ref C) = some false)))))
def neB (K : PySem.W.Frag) (C : Addr) : Bool := He.eqO (PySem.W.findIn K (.ref C) "__ne__") (some (some (.builtin "object.__ne__"))) && decide (PySem.W.subIn K (.ref C) (.type "object") = some true)
def unB (K : PySem.W.Frag) (C O : Addr) : Bool := decide (PySem.W.kitOne K (.ref O) (.ref C) = some false) && (PySem.W.notFirst K C (.ref O) && (kindNames.all fun k => PySem.W.notFirst K C (.type k)))
def noLst (K : PySem.W.Frag) : Bool := K.all fun q => match q.2.cls with | .type c => !(c == "list") | _ => true
def topS (i : Nat) : Stmt := PySem.Challenge.pw_setshouse_k04_whose_nets_they_are.main.body.getD i (.Pass ⟨0, 0, 0, 0⟩)
abbrev s_are_rising : Stmt := topS 11
abbrev s_is_name : Stmt := topS 10
abbrev s_are_called : Stmt := topS 24
abbrev s_is_whole : Stmt := topS 8
abbrev s_are_whole : Stmt := topS 9
abbrev s_are_lists : Stmt := topS 26
abbrev s_are_pairs : Stmt := topS 12
abbrev s_are_rules : Stmt := topS 25
abbrev s_House_init : Stmt := inClass (topS 27) 0
abbrev s_l_built : Stmt := topS 37
abbrev s_l_due : Stmt := topS 39
abbrev s_l_take : Stmt := topS 30
abbrev s_l_of : Stmt := topS 31
abbrev s_l_names : Stmt := topS 32
abbrev s_l_all_pairs : Stmt := topS 33
abbrev s_l_pairs : Stmt := topS 34
abbrev s_l_home : Stmt := topS 35
abbrev s_l_mesh : Stmt := topS 36
abbrev s_l_others : Stmt := topS 40
abbrev s_l_pot : Stmt := topS 29
abbrev s_are_ties : Stmt := topS 17
abbrev s_Net_init : Stmt := inClass (topS 18) 0
abbrev s_l_woven : Stmt := topS 38
abbrev s_is_net_of : Stmt := topS 19
abbrev s_Net_eq : Stmt := inClass (topS 18) 2
abbrev s_law : Stmt := topS 41
def d_are_rising : He.DefD := ⟨("are_rising", none), "are_rising", "are_rising", defArgs s_are_rising, defBody s_are_rising, defScope s_are_rising, [], []⟩
def d_is_name : He.DefD := ⟨("is_name", none), "is_name", "is_name", defArgs s_is_name, defBody s_is_name, defScope s_is_name, [], []⟩
def d_are_called : He.DefD := ⟨("are_called", none), "are_called", "are_called", defArgs s_are_called, defBody s_are_called, defScope s_are_called, [], []⟩
def d_is_whole : He.DefD := ⟨("is_whole", none), "is_whole", "is_whole", defArgs s_is_whole, defBody s_is_whole, defScope s_is_whole, [], []⟩
def d_are_whole : He.DefD := ⟨("are_whole", none), "are_whole", "are_whole", defArgs s_are_whole, defBody s_are_whole, defScope s_are_whole, [], []⟩
def d_are_lists : He.DefD := ⟨("are_lists", none), "are_lists", "are_lists", defArgs s_are_lists, defBody s_are_lists, defScope s_are_lists, [], []⟩
def d_are_pairs : He.DefD := ⟨("are_pairs", none), "are_pairs", "are_pairs", defArgs s_are_pairs, defBody s_are_pairs, defScope s_are_pairs, [], []⟩
def d_are_rules : He.DefD := ⟨("are_rules", none), "are_rules", "are_rules", defArgs s_are_rules, defBody s_are_rules, defScope s_are_rules, [], []⟩
def d_House_init : He.DefD := ⟨("House", some "__init__"), "__init__", "House.__init__", defArgs s_House_init, defBody s_House_init, defScope s_House_init, [], []⟩
def d_l_built : He.DefD := ⟨("_law_built", none), "_law_built", "_law_built", defArgs s_l_built, defBody s_l_built, defScope s_l_built, [], []⟩
def d_l_due : He.DefD := ⟨("_law_due", none), "_law_due", "_law_due", defArgs s_l_due, defBody s_l_due, defScope s_l_due, [], []⟩
def d_l_take : He.DefD := ⟨("_law_take", none), "_law_take", "_law_take", defArgs s_l_take, defBody s_l_take, defScope s_l_take, [], []⟩
def d_l_of : He.DefD := ⟨("_law_of", none), "_law_of", "_law_of", defArgs s_l_of, defBody s_l_of, defScope s_l_of, [], []⟩
def d_l_names : He.DefD := ⟨("_law_names", none), "_law_names", "_law_names", defArgs s_l_names, defBody s_l_names, defScope s_l_names, [], []⟩
def d_l_all_pairs : He.DefD := ⟨("_law_all_pairs", none), "_law_all_pairs", "_law_all_pairs", defArgs s_l_all_pairs, defBody s_l_all_pairs, defScope s_l_all_pairs, [], []⟩
def d_l_pairs : He.DefD := ⟨("_law_pairs", none), "_law_pairs", "_law_pairs", defArgs s_l_pairs, defBody s_l_pairs, defScope s_l_pairs, [], []⟩
def d_l_home : He.DefD := ⟨("_law_home", none), "_law_home", "_law_home", defArgs s_l_home, defBody s_l_home, defScope s_l_home, [], []⟩
def d_l_mesh : He.DefD := ⟨("_law_mesh", none), "_law_mesh", "_law_mesh", defArgs s_l_mesh, defBody s_l_mesh, defScope s_l_mesh, [], []⟩
def d_l_others : He.DefD := ⟨("_law_others", none), "_law_others", "_law_others", defArgs s_l_others, defBody s_l_others, defScope s_l_others, [], []⟩
def d_l_pot : He.DefD := ⟨("_law_pot", none), "_law_pot", "_law_pot", defArgs s_l_pot, defBody s_l_pot, defScope s_l_pot, [], []⟩
def d_are_ties : He.DefD := ⟨("are_ties", none), "are_ties", "are_ties", defArgs s_are_ties, defBody s_are_ties, defScope s_are_ties, [], []⟩
def d_Net_init : He.DefD := ⟨("Net", some "__init__"), "__init__", "Net.__init__", defArgs s_Net_init, defBody s_Net_init, defScope s_Net_init, [], []⟩
def d_l_woven : He.DefD := ⟨("_law_woven", none), "_law_woven", "_law_woven", defArgs s_l_woven, defBody s_l_woven, defScope s_l_woven, [], []⟩
def d_is_net_of : He.DefD := ⟨("is_net_of", none), "is_net_of", "is_net_of", defArgs s_is_net_of, defBody s_is_net_of, defScope s_is_net_of, [], []⟩
def d_Net_eq : He.DefD := ⟨("Net", some "__eq__"), "__eq__", "Net.__eq__", defArgs s_Net_eq, defBody s_Net_eq, defScope s_Net_eq, [], []⟩
def d_law : He.DefD := ⟨("law", none), "law", "law", defArgs s_law, defBody s_law, defScope s_law, [], []⟩
def fnA : List He.DefD := [d_are_rising, d_is_name, d_are_called, d_is_whole, d_are_whole, d_are_lists, d_are_pairs, d_are_rules, d_House_init, d_l_built, d_l_due, d_l_take, d_l_of]
def fnB : List He.DefD := [d_l_names, d_l_all_pairs, d_l_pairs, d_l_home, d_l_mesh, d_l_others, d_l_pot, d_are_ties, d_Net_init, d_l_woven, d_is_net_of, d_Net_eq, d_law]
def fn : List He.DefD := fnA ++ fnB
def faA0 : List He.Fa := [.glo "are_rising", .glo "is_name", .glo "are_called", .glo "is_whole", .glo "are_whole", .glo "are_lists", .glo "are_pairs", .glo "are_rules", .glo "_law_built", .glo "_law_due", .glo "_law_take", .glo "_law_of", .glo "_law_names", .glo "_law_all_pairs", .glo "_law_pairs", .glo "_law_home", .glo "_law_mesh", .glo "_law_others", .glo "_law_pot", .glo "are_ties", .glo "_law_woven", .glo "is_net_of", .glo "law", .free "abs", .free "all", .free "any", .free "bool", .free "int", .free "isinstance", .free "len"]
def faA1 : List He.Fa := [.free "list"]
def faA : List He.Fa := faA0 ++ faA1
def faB0 : List He.Fa := [.free "max", .free "min", .free "range", .free "repr", .free "set", .free "sorted", .free "str", .free "tuple", .free "zip", .str "LETTERS" "abcdefghijklmnopqrstuvwxyz", .int "MOST_KNOTS" 60, .int "MOST_LABELS" 400, .int "MOST_LETTERS" 6, .int "MOST_LINKS" 700, .int "MOST_LISTS" 6, .int "MOST_MARKS" 4, .int "MOST_RULES" 3, .glo "House", .cls "House", .glo "Net", .cls "Net", .noat "House" "lists", .noat "House" "many", .noat "House" "marks_by", .noat "House" "pairs_by", .noat "House" "rules", .noat "Net" "knots", .noat "Net" "labels", .noat "Net" "links", .mkr "House"]
def faB1 : List He.Fa := [.mkr "Net", .meth "Net" "__eq__"]
def faB : List He.Fa := faB0 ++ faB1
def fa : List He.Fa := faA ++ faB
def lo0 : List Str := ["_wall", "HouseError", "NoHouse", "NoNet", "LETTERS", "MOST_LETTERS", "is_whole", "are_whole", "is_name", "are_rising", "are_pairs", "MOST_KNOTS", "MOST_LINKS", "MOST_LABELS", "are_ties", "Net", "is_net_of", "MOST_MARKS", "MOST_RULES", "MOST_LISTS", "are_called", "are_rules", "are_lists", "House", "_law_pot", "_law_take", "_law_of", "_law_names", "_law_all_pairs", "_law_pairs"]
def lo1 : List Str := ["_law_home", "_law_mesh", "_law_built", "_law_woven", "_law_due", "_law_others"]
def lo : List Str := lo0 ++ lo1
def ex (K : PySem.W.Frag) : Bool := [noLst K, clsB K (He.ga K "House"), clsB K (He.ga K "Net"), neB K (He.ga K "Net"), unB K (He.ga K "Net") (He.ga K "House")].all id
abbrev R : PySem.W.OpenRow := PySem.W.OpenLaw.row PySem.Challenge.rw_setshouse_k04_whose_nets_they_are
abbrev hk : PySem.W.Hook := He.hookX 8 fa fn [] [] ex
def ob (s : PySem.W.SharedT) : He.AlX := He.obsX 8 fa fn [] [] ex (HandSHeadRun.getT s)
theorem join_map {S β γ : Type} {x : Option S} {L : S → Bool} {N : S → β} {g : β} {o1 o2 o3 o4 o : S → γ} {v1 v2 v3 v4 v : γ} (h1 : x.map (fun s => (L s, N s, o1 s)) = some (true, g, v1)) (h2 : x.map (fun s => (L s, N s, o2 s)) = some (true, g, v2)) (h3 : x.map (fun s => (L s, N s, o3 s)) = some (true, g, v3)) (h4 : x.map (fun s => (L s, N s, o4 s)) = some (true, g, v4))
    (hj : ∀ s, o1 s = v1 → o2 s = v2 → o3 s = v3 → o4 s = v4 → o s = v) : x.map (fun s => (L s, N s, o s)) = some (true, g, v) := by
  cases x with
  | none => cases h1
  | some s =>
    simp only [Option.map_some, Option.some.injEq, Prod.mk.injEq] at h1 h2 h3 h4 ⊢
    exact ⟨h1.1, h1.2.1, hj s h1.2.2 h2.2.2 h3.2.2 h4.2.2⟩
theorem obs_join {n : Nat} {fa1 fa2 : List He.Fa} {fn1 fn2 : List He.DefD} {ex : PySem.W.Frag → Bool} {g : Addr → Option Obj} {w : World} (h1 : He.obsX n fa1 [] [] [] ex g = He.valX [] [] w) (h2 : He.obsX n fa2 [] [] [] (fun _ => true) g = He.valX [] [] w) (h3 : He.obsX n [] fn1 [] [] (fun _ => true) g = He.valX fn1 [] w) (h4 : He.obsX n [] fn2 [] [] (fun _ => true) g = He.valX fn2 [] w) : He.obsX n (fa1 ++ fa2) (fn1 ++ fn2) [] [] ex g = He.valX (fn1 ++ fn2) [] w := by
  simp only [He.obsX, He.obsT, He.obsD, He.valX, He.valT, He.valD, List.map_nil, List.all_nil, Bool.true_and, Bool.and_true, List.map_append, List.all_append, Prod.mk.injEq, and_true, true_and] at h1 h2 h3 h4 ⊢
  obtain ⟨a1, a2⟩ := h1
  obtain ⟨b1, b2⟩ := h2
  obtain ⟨⟨c1, c2⟩, c3⟩ := h3
  obtain ⟨⟨d1, d2⟩, d3⟩ := h4
  rw [a1, b1, c1, d1, c2, d2]
  exact ⟨⟨rfl, rfl⟩, a2⟩
abbrev hk1 : PySem.W.Hook := He.hookX 8 faA [] [] [] ex
def ob1 (s : PySem.W.SharedT) : He.AlX := He.obsX 8 faA [] [] [] ex (HandSHeadRun.getT s)
theorem run1 (w : World) : HandSHeadRun.RunEq R (PySem.W.view R.prog [41]) hk1 ob1 20000 lo w := by
  intro os
  kernel_rfl
abbrev hk2 : PySem.W.Hook := He.hookX 8 faB [] [] [] (fun _ => true)
def ob2 (s : PySem.W.SharedT) : He.AlX := He.obsX 8 faB [] [] [] (fun _ => true) (HandSHeadRun.getT s)
theorem run2 (w : World) : HandSHeadRun.RunEq R (PySem.W.view R.prog [41]) hk2 ob2 20000 lo w := by
  intro os
  kernel_rfl
abbrev hk3 : PySem.W.Hook := He.hookX 8 [] fnA [] [] (fun _ => true)
def ob3 (s : PySem.W.SharedT) : He.AlX := He.obsX 8 [] fnA [] [] (fun _ => true) (HandSHeadRun.getT s)
theorem run3 (w : World) : HandSHeadRun.RunEq R (PySem.W.view R.prog [41]) hk3 ob3 20000 lo w := by
  intro os
  kernel_rfl
abbrev hk4 : PySem.W.Hook := He.hookX 8 [] fnB [] [] (fun _ => true)
def ob4 (s : PySem.W.SharedT) : He.AlX := He.obsX 8 [] fnB [] [] (fun _ => true) (HandSHeadRun.getT s)
theorem run4 (w : World) : HandSHeadRun.RunEq R (PySem.W.view R.prog [41]) hk4 ob4 20000 lo w := by
  intro os
  kernel_rfl
theorem run (w : World) : HandSHeadRun.RunEq R (PySem.W.view R.prog [41]) hk ob 20000 lo w := by
  intro os
  exact join_map (run1 w os) (run2 w os) (run3 w os) (run4 w os) fun s a b c d => obs_join a b c d
end DL
set_option Elab.async false
set_option linter.all false
set_option maxRecDepth 100000
set_option maxHeartbeats 4000000
/-! DLa: data as trees (D), other objects by address (Mp); how they lie in the abstract heap. -/
namespace DL
open PySem PySem.Spec PyProof.Rows L2

inductive D where
  | non | bl (b : Bool) | int (i : Int) | str (x : Str) | ty (n : String) | ref (a : Addr) | tup (xs : List D)

/-- the two numbers of a pot -/
def potTop : Int := 10 ^ 900
def potMod : Int := 2305843009213693951
def PotOk (g m : Int) : Prop := 0 ≤ g ∧ g < potTop ∧ 0 ≤ m ∧ m < potMod

inductive MO where
  | lst (ds : List D)
  | dK (kvs : List (Key × D))
  | dT (kvs : List (List Key × D))
  | dX (P : Program) (w : World) (kvs : List (List Key × D))
  | ins (C : Addr) (fs : List (Str × D))
  | pot
  | scr (ns : List Int)
  | tx (ds : List D)
  | exo (C : Addr) (d : Option Addr)
  | exd (fs : List (Str × D))

abbrev Mp := Addr → Option MO
def up (M : Mp) (a : Addr) (o : MO) : Mp := fun b => if b = a then some o else M b
theorem up_same {M : Mp} {a : Addr} {o : MO} : up M a o a = some o := by unfold up; rw [if_pos rfl]
theorem up_ne {M : Mp} {a b : Addr} {o : MO} (h : b ≠ a) : up M a o b = M b := by unfold up; rw [if_neg h]

variable (K : PySem.W.Frag)
mutual
def Rep (H : Hp) : D → V → Prop
  | .non, v => v = .non
  | .bl b, v => v = .bl b
  | .int i, v => v = .int i
  | .str x, v => v = .str x
  | .ty n, v => v = .ty n
  | .ref a, v => v = .ref a
  | .tup ds, v => ∃ a vs, v = .ref a ∧ SqT K H a vs ∧ Reps H ds vs
def Reps (H : Hp) : List D → List V → Prop
  | [], vs => vs = []
  | d :: ds, vs => ∃ v r, vs = v :: r ∧ Rep H d v ∧ Reps H ds r
end
def Pairs (H : Hp) {κ : Type} : List (κ × D) → List (κ × V) → Prop
  | [], vs => vs = []
  | (k, d) :: ds, vs => ∃ v r, vs = (k, v) :: r ∧ Rep K H d v ∧ Pairs H ds r

/-- a dict whose keys are tuples, as the object knows it: key, the tuple's place, value -/
def TD (P : Program) (w : World) (a : Addr) (xs : List (List Key × Addr × V)) : Heap → Prop := fun h => (a == sysModules) = false ∧ ∃ ys : List (List Key × Addr × Value),
  Paired (fun (p : List Key × Addr × V) (q : List Key × Addr × Value) => p.1 = q.1 ∧ p.2.1 = q.2.1 ∧ RelV p.2.2 q.2.2) xs ys ∧
  ∃ o es ep, h.get? a = some o ∧ o.ExactDict ∧ o.data = .dict es ep ∧ es.toList = ys.map (entryOfKey (tupleKind (mixKind P w))) ∧ (ys.map (·.1)).Nodup
def TPs (H : Hp) : List (List Key × D) → List (List Key × Addr × V) → Prop
  | [], xs => xs = []
  | (k, d) :: ds, xs => ∃ b v r, xs = (k, b, v) :: r ∧ SqT K H b (k.map kV) ∧ Rep K H d v ∧ TPs H ds r
/-- a tuple that has no dict, known as the object it is -/
def TXk (a : Addr) (vs : List V) (h : Heap) : Prop := ∃ its : List Value, its.length ≤ sizeLine ∧ Vals vs its ∧ h.get? a = some { cls := .type "tuple", data := .seq its.toArray }
/-- an exception's object: its class, its dict -/
def exH (a C : Addr) (d : Option Addr) : HO := .ext fun h => ∃ (oe : Obj) (vs : Array Value), h.get? a = some oe ∧ oe.cls = .ref C ∧ oe.dict = d ∧ oe.data = .fields vs
def RepO (H : Hp) (a : Addr) : MO → Prop
  | .lst ds => ∃ vs, H a = some (.lst vs) ∧ Reps K H ds vs
  | .dK kvs => ∃ vs, H a = some (.dK vs) ∧ Pairs K H kvs vs
  | .dT kvs => ∃ vs, H a = some (.dT vs) ∧ Pairs K H kvs vs
  | .dX P w kvs => ∃ xs, H a = some (.ext (TD P w a xs)) ∧ TPs K H kvs xs
  | .ins C fs => ∃ dx vs, H a = some (.ins C dx vs) ∧ Pairs K H fs vs
  | .pot => ∃ g m, H a = some (.lst [.int g, .int m]) ∧ PotOk g m
  | .scr ns => ∃ o, H a = some (.frz o (.lst (ns.map V.int)))
  | .tx ds => ∃ vs, H a = some (.ext (TXk a vs)) ∧ Reps K H ds vs
  | .exo C d => H a = some (exH a C d)
  | .exd fs => ∃ vs, H a = some (.xd vs) ∧ Pairs K H fs vs
def RepM (H : Hp) (M : Mp) : Prop := ∀ a o, M a = some o → RepO K H a o
/-- all tuples are as they were -/
def TupS (H H' : Hp) : Prop := ∀ a xs, SqT K H a xs → SqT K H' a xs
variable {K}
theorem TupS.refl (H : Hp) : TupS K H H := fun _ _ h => h
theorem TupS.trans {H H1 H2 : Hp} (a : TupS K H H1) (b : TupS K H1 H2) : TupS K H H2 := fun c o h => b c o (a c o h)
/-- a heap changed at one place that holds no tuple -/
theorem TupS.at_ {H : Hp} {a : Addr} {o : HO} (h : ∀ xs, ¬ Rd H a (.tup xs)) : TupS K H (upd H a o) := fun b xs q => by
  rcases q with (q | ⟨z, q⟩) | q
  · refine .inl (.inl ?_)
    rw [upd_ne]; exact q
    intro e; subst e; exact h xs (.inl q)
  · refine .inl (.inr ⟨z, ?_⟩)
    rw [upd_ne]; exact q
    intro e; subst e; exact h xs (.inr ⟨z, q⟩)
  · exact .inr q
theorem TupS.new {H : Hp} {a : Addr} {o : HO} (h : H a = none) : TupS K H (upd H a o) := .at_ fun xs q => by
  rcases q with q | ⟨z, q⟩ <;> (rw [h] at q; cases q)
theorem TupS.lst {H : Hp} {a : Addr} {o : HO} {ys : List V} (h : H a = some (.lst ys)) : TupS K H (upd H a o) := .at_ fun xs q => by
  rcases q with q | ⟨z, q⟩ <;> (rw [h] at q; cases q)
theorem TupS.dK {H : Hp} {a : Addr} {o : HO} {ys} (h : H a = some (.dK ys)) : TupS K H (upd H a o) := .at_ fun xs q => by
  rcases q with q | ⟨z, q⟩ <;> (rw [h] at q; cases q)
theorem TupS.dT {H : Hp} {a : Addr} {o : HO} {ys} (h : H a = some (.dT ys)) : TupS K H (upd H a o) := .at_ fun xs q => by
  rcases q with q | ⟨z, q⟩ <;> (rw [h] at q; cases q)
theorem TupS.ins {H : Hp} {a : Addr} {o : HO} {C dx fs} (h : H a = some (.ins C dx fs)) : TupS K H (upd H a o) := .at_ fun xs q => by
  rcases q with q | ⟨z, q⟩ <;> (rw [h] at q; cases q)
mutual
theorem Rep.stay {H H' : Hp} (t : TupS K H H') : ∀ {d : D} {v : V}, Rep K H d v → Rep K H' d v
  | .non, _, h => h
  | .bl _, _, h => h
  | .int _, _, h => h
  | .str _, _, h => h
  | .ty _, _, h => h
  | .ref _, _, h => h
  | .tup ds, _, h => by
    unfold Rep at h ⊢
    obtain ⟨a, vs, e, s, r⟩ := h
    exact ⟨a, vs, e, t _ _ s, Reps.stay t r⟩
theorem Reps.stay {H H' : Hp} (t : TupS K H H') : ∀ {ds : List D} {vs : List V}, Reps K H ds vs → Reps K H' ds vs
  | [], _, h => h
  | d :: ds, _, h => by
    unfold Reps at h ⊢
    obtain ⟨v, r, e, h1, h2⟩ := h
    exact ⟨v, r, e, Rep.stay t h1, Reps.stay t h2⟩
end
theorem Pairs.stay {H H' : Hp} {κ : Type} (t : TupS K H H') : ∀ {ds : List (κ × D)} {vs : List (κ × V)}, Pairs K H ds vs → Pairs K H' ds vs
  | [], _, h => h
  | (k, d) :: ds, _, h => by
    unfold Pairs at h ⊢
    obtain ⟨v, r, e, h1, h2⟩ := h
    exact ⟨v, r, e, Rep.stay t h1, Pairs.stay t h2⟩
theorem Reps.length {H : Hp} : ∀ {ds : List D} {vs : List V}, Reps K H ds vs → ds.length = vs.length
  | [], _, h => by unfold Reps at h; subst h; rfl
  | d :: ds, _, h => by
    unfold Reps at h
    obtain ⟨v, r, rfl, _, h2⟩ := h
    rw [List.length_cons, List.length_cons, h2.length]
theorem Reps.append {H : Hp} : ∀ {ds es : List D} {vs us : List V}, Reps K H ds vs → Reps K H es us → Reps K H (ds ++ es) (vs ++ us)
  | [], _, _, _, h, h' => by unfold Reps at h; subst h; exact h'
  | d :: ds, _, _, _, h, h' => by
    unfold Reps at h
    obtain ⟨v, r, rfl, h1, h2⟩ := h
    rw [List.cons_append, List.cons_append]
    unfold Reps
    exact ⟨v, _, rfl, h1, h2.append h'⟩
theorem Reps.get {H : Hp} : ∀ {ds : List D} {vs : List V} {i : Nat} {d : D}, Reps K H ds vs → ds[i]? = some d → ∃ v, vs[i]? = some v ∧ Rep K H d v
  | [], _, _, _, _, e => by simp at e
  | d :: ds, _, 0, _, h, e => by
    unfold Reps at h
    obtain ⟨v, r, rfl, h1, h2⟩ := h
    simp at e; subst e
    exact ⟨v, rfl, h1⟩
  | d :: ds, _, i + 1, _, h, e => by
    unfold Reps at h
    obtain ⟨v, r, rfl, h1, h2⟩ := h
    obtain ⟨u, e1, e2⟩ := h2.get (i := i) (by simpa using e)
    exact ⟨u, by simpa using e1, e2⟩
theorem Reps.get' {H : Hp} : ∀ {ds : List D} {vs : List V} {i : Nat} {v : V}, Reps K H ds vs → vs[i]? = some v → ∃ d, ds[i]? = some d ∧ Rep K H d v
  | [], _, _, _, h, e => by unfold Reps at h; subst h; simp at e
  | d :: ds, _, 0, _, h, e => by
    unfold Reps at h
    obtain ⟨v, r, rfl, h1, h2⟩ := h
    simp at e; subst e
    exact ⟨d, rfl, h1⟩
  | d :: ds, _, i + 1, _, h, e => by
    unfold Reps at h
    obtain ⟨v, r, rfl, h1, h2⟩ := h
    obtain ⟨u, e1, e2⟩ := h2.get' (i := i) (by simpa using e)
    exact ⟨u, by simpa using e1, e2⟩
theorem Reps.take {H : Hp} : ∀ {ds : List D} {vs : List V} (n : Nat), Reps K H ds vs → Reps K H (ds.take n) (vs.take n)
  | _, _, 0, _ => by unfold Reps; simp
  | [], _, _ + 1, h => by unfold Reps at h; subst h; unfold Reps; simp
  | d :: ds, _, n + 1, h => by
    unfold Reps at h
    obtain ⟨v, r, rfl, h1, h2⟩ := h
    rw [List.take_succ_cons, List.take_succ_cons]
    unfold Reps
    exact ⟨v, _, rfl, h1, h2.take n⟩
theorem Reps.drop {H : Hp} : ∀ {ds : List D} {vs : List V} (n : Nat), Reps K H ds vs → Reps K H (ds.drop n) (vs.drop n)
  | _, _, 0, h => by simpa using h
  | [], _, _ + 1, h => by unfold Reps at h; subst h; unfold Reps; simp
  | d :: ds, _, n + 1, h => by
    unfold Reps at h
    obtain ⟨v, r, rfl, h1, h2⟩ := h
    rw [List.drop_succ_cons, List.drop_succ_cons]
    exact h2.drop n
theorem Reps.set {H : Hp} {d : D} {v : V} (q : Rep K H d v) : ∀ {ds : List D} {vs : List V} (n : Nat), Reps K H ds vs → Reps K H (ds.set n d) (vs.set n v)
  | [], _, _, h => by unfold Reps at h; subst h; unfold Reps; simp
  | e :: ds, _, 0, h => by
    unfold Reps at h
    obtain ⟨u, r, rfl, h1, h2⟩ := h
    rw [List.set_cons_zero, List.set_cons_zero]
    unfold Reps
    exact ⟨v, _, rfl, q, h2⟩
  | e :: ds, _, n + 1, h => by
    unfold Reps at h
    obtain ⟨u, r, rfl, h1, h2⟩ := h
    rw [List.set_cons_succ, List.set_cons_succ]
    unfold Reps
    exact ⟨u, _, rfl, h1, h2.set q n⟩
theorem Reps.nil {H : Hp} : Reps K H [] [] := by unfold Reps; rfl
theorem Reps.cons {H : Hp} {d : D} {v : V} {ds : List D} {vs : List V} (h1 : Rep K H d v) (h2 : Reps K H ds vs) : Reps K H (d :: ds) (v :: vs) := by unfold Reps; exact ⟨v, vs, rfl, h1, h2⟩
theorem Reps.snoc {H : Hp} {d : D} {v : V} {ds : List D} {vs : List V} (h2 : Reps K H ds vs) (h1 : Rep K H d v) : Reps K H (ds ++ [d]) (vs ++ [v]) := h2.append (Reps.cons h1 .nil)
theorem Reps.ints {H : Hp} : ∀ ns : List Int, Reps K H (ns.map D.int) (ns.map V.int)
  | [] => .nil
  | n :: ns => .cons (by unfold Rep; rfl) (Reps.ints ns)
theorem Pairs.lookup {H : Hp} {κ : Type} [BEq κ] {k : κ} : ∀ {ds : List (κ × D)} {vs : List (κ × V)} {d : D}, Pairs K H ds vs → ds.lookup k = some d → ∃ v, vs.lookup k = some v ∧ Rep K H d v
  | [], _, _, _, e => by simp at e
  | (j, c) :: ds, _, _, h, e => by
    unfold Pairs at h
    obtain ⟨v, r, rfl, h1, h2⟩ := h
    rw [List.lookup_cons] at e ⊢
    cases hb : k == j with
    | true => rw [hb] at e; cases e; exact ⟨v, rfl, h1⟩
    | false => rw [hb] at e; exact h2.lookup e
theorem Pairs.lookup_none {H : Hp} {κ : Type} [BEq κ] {k : κ} : ∀ {ds : List (κ × D)} {vs : List (κ × V)}, Pairs K H ds vs → ds.lookup k = none → vs.lookup k = none
  | [], _, h, e => by unfold Pairs at h; subst h; rfl
  | (j, c) :: ds, _, h, e => by
    unfold Pairs at h
    obtain ⟨v, r, rfl, h1, h2⟩ := h
    rw [List.lookup_cons] at e ⊢
    cases hb : k == j with
    | true => rw [hb] at e; cases e
    | false => rw [hb] at e; exact h2.lookup_none e
theorem Pairs.keys {H : Hp} {κ : Type} : ∀ {ds : List (κ × D)} {vs : List (κ × V)}, Pairs K H ds vs → ds.map (·.1) = vs.map (·.1)
  | [], _, h => by unfold Pairs at h; subst h; rfl
  | (j, c) :: ds, _, h => by
    unfold Pairs at h
    obtain ⟨v, r, rfl, h1, h2⟩ := h
    rw [List.map_cons, List.map_cons, h2.keys]
theorem Pairs.length {H : Hp} {κ : Type} {ds : List (κ × D)} {vs : List (κ × V)} (h : Pairs K H ds vs) : ds.length = vs.length := by
  have e := congrArg List.length h.keys
  simpa using e
theorem TPs.stay {H H' : Hp} (t : TupS K H H') : ∀ {ds : List (List Key × D)} {xs : List (List Key × Addr × V)}, TPs K H ds xs → TPs K H' ds xs
  | [], _, h => h
  | (k, d) :: ds, _, h => by
    unfold TPs at h ⊢
    obtain ⟨b, v, r, e, h1, h2, h3⟩ := h
    exact ⟨b, v, r, e, t _ _ h1, h2.stay t, h3.stay t⟩
theorem TPs.keys {H : Hp} : ∀ {ds : List (List Key × D)} {xs : List (List Key × Addr × V)}, TPs K H ds xs → ds.map (·.1) = xs.map (·.1)
  | [], _, h => by unfold TPs at h; subst h; rfl
  | (k, d) :: ds, _, h => by
    unfold TPs at h
    obtain ⟨b, v, r, rfl, h1, h2, h3⟩ := h
    rw [List.map_cons, List.map_cons, h3.keys]
theorem TPs.sq {H : Hp} : ∀ {ds : List (List Key × D)} {xs : List (List Key × Addr × V)}, TPs K H ds xs → ∀ q ∈ xs, SqT K H q.2.1 (q.1.map kV)
  | [], _, h, q, hq => by unfold TPs at h; subst h; cases hq
  | (k, d) :: ds, _, h, q, hq => by
    unfold TPs at h
    obtain ⟨b, v, r, rfl, h1, h2, h3⟩ := h
    rcases List.mem_cons.mp hq with rfl | hq
    · exact h1
    · exact h3.sq q hq
theorem TPs.more {H : Hp} {k : List Key} {d : D} {b : Addr} {v : V} (hb : SqT K H b (k.map kV)) (hv : Rep K H d v) : ∀ {ds : List (List Key × D)} {xs : List (List Key × Addr × V)}, TPs K H ds xs → TPs K H (ds ++ [(k, d)]) (xs ++ [(k, b, v)])
  | [], _, h => by unfold TPs at h; subst h; exact ⟨b, v, [], rfl, hb, hv, rfl⟩
  | (j, c) :: ds, _, h => by
    unfold TPs at h
    obtain ⟨b', v', r, rfl, h1, h2, h3⟩ := h
    exact ⟨b', v', _, rfl, h1, h2, TPs.more hb hv h3⟩
/-- what an object is, elsewhere -/
theorem RepO.stay {H H' : Hp} {a : Addr} (t : TupS K H H') (e : H' a = H a) : ∀ {o : MO}, RepO K H a o → RepO K H' a o
  | .lst ds, h => by obtain ⟨vs, h1, h2⟩ := h; exact ⟨vs, e.trans h1, h2.stay t⟩
  | .dK ds, h => by obtain ⟨vs, h1, h2⟩ := h; exact ⟨vs, e.trans h1, h2.stay t⟩
  | .dT ds, h => by obtain ⟨vs, h1, h2⟩ := h; exact ⟨vs, e.trans h1, h2.stay t⟩
  | .dX P w ds, h => by obtain ⟨vs, h1, h2⟩ := h; exact ⟨vs, e.trans h1, h2.stay t⟩
  | .ins C fs, h => by obtain ⟨dx, vs, h1, h2⟩ := h; exact ⟨dx, vs, e.trans h1, h2.stay t⟩
  | .pot, h => by obtain ⟨g, m, h1, h2⟩ := h; exact ⟨g, m, e.trans h1, h2⟩
  | .scr ns, h => by obtain ⟨o, h1⟩ := h; exact ⟨o, e.trans h1⟩
  | .tx ds, h => by obtain ⟨vs, h1, h2⟩ := h; exact ⟨vs, e.trans h1, h2.stay t⟩
  | .exo C d, h => e.trans h
  | .exd fs, h => by obtain ⟨vs, h1, h2⟩ := h; exact ⟨vs, e.trans h1, h2.stay t⟩
theorem RepO.some {H : Hp} {a : Addr} : ∀ {o : MO}, RepO K H a o → ∃ u, H a = Option.some u
  | .lst ds, h => by obtain ⟨vs, h1, h2⟩ := h; exact ⟨_, h1⟩
  | .dK ds, h => by obtain ⟨vs, h1, h2⟩ := h; exact ⟨_, h1⟩
  | .dT ds, h => by obtain ⟨vs, h1, h2⟩ := h; exact ⟨_, h1⟩
  | .dX P w ds, h => by obtain ⟨vs, h1, h2⟩ := h; exact ⟨_, h1⟩
  | .ins C fs, h => by obtain ⟨dx, vs, h1, h2⟩ := h; exact ⟨_, h1⟩
  | .pot, h => by obtain ⟨g, m, h1, h2⟩ := h; exact ⟨_, h1⟩
  | .scr ns, h => by obtain ⟨o, h1⟩ := h; exact ⟨_, h1⟩
  | .tx ds, h => by obtain ⟨vs, h1, h2⟩ := h; exact ⟨_, h1⟩
  | .exo C d, h => ⟨_, h⟩
  | .exd fs, h => by obtain ⟨vs, h1, h2⟩ := h; exact ⟨_, h1⟩
theorem RepO.notup {H : Hp} {a : Addr} {o : MO} (h : RepO K H a o) (xs : List V) : ¬ Rd H a (.tup xs) := fun q => by
  cases o with
  | lst ds => obtain ⟨vs, h1, h2⟩ := h; rcases q with q | ⟨z, q⟩ <;> (rw [h1] at q; cases q)
  | dK ds => obtain ⟨vs, h1, h2⟩ := h; rcases q with q | ⟨z, q⟩ <;> (rw [h1] at q; cases q)
  | dT ds => obtain ⟨vs, h1, h2⟩ := h; rcases q with q | ⟨z, q⟩ <;> (rw [h1] at q; cases q)
  | dX P w ds => obtain ⟨vs, h1, h2⟩ := h; rcases q with q | ⟨z, q⟩ <;> (rw [h1] at q; cases q)
  | ins C fs => obtain ⟨dx, vs, h1, h2⟩ := h; rcases q with q | ⟨z, q⟩ <;> (rw [h1] at q; cases q)
  | pot => obtain ⟨g, m, h1, h2⟩ := h; rcases q with q | ⟨z, q⟩ <;> (rw [h1] at q; cases q)
  | scr ns => obtain ⟨o, h1⟩ := h; rcases q with q | ⟨z, q⟩ <;> (rw [h1] at q; cases q)
  | tx ds => obtain ⟨vs, h1, h2⟩ := h; rcases q with q | ⟨z, q⟩ <;> (rw [h1] at q; cases q)
  | exo C d =>
    have h : H a = Option.some (exH a C d) := h
    rcases q with q | ⟨z, q⟩ <;> (rw [h] at q; unfold exH at q; cases q)
  | exd fs => obtain ⟨vs, h1, h2⟩ := h; rcases q with q | ⟨z, q⟩ <;> (rw [h1] at q; cases q)
theorem RepM.none {H : Hp} {M : Mp} (r : RepM K H M) {p : Addr} (h : H p = Option.none) : M p = Option.none := by
  cases q : M p with
  | none => rfl
  | some o => obtain ⟨u, e⟩ := (r p o q).some; rw [h] at e; cases e
/-- a new object, tracked -/
theorem RepM.new {H : Hp} {M : Mp} (r : RepM K H M) {p : Addr} {u : HO} {o : MO} (h : H p = Option.none) (ho : RepO K (upd H p u) p o) : RepM K (upd H p u) (up M p o) := fun a q e => by
  by_cases ha : a = p
  · subst ha; rw [up_same] at e; cases e; exact ho
  · rw [up_ne ha] at e
    exact (r a q e).stay (.new h) (upd_ne ha)
/-- a new object that isn't tracked (a tuple) -/
theorem RepM.more {H : Hp} {M : Mp} (r : RepM K H M) {p : Addr} {u : HO} (h : H p = Option.none) : RepM K (upd H p u) M := fun a q e => by
  have ha : a ≠ p := fun z => by subst z; rw [r.none h] at e; cases e
  exact (r a q e).stay (.new h) (upd_ne ha)
/-- an object changed -/
theorem RepM.put {H : Hp} {M : Mp} (r : RepM K H M) {p : Addr} {u : HO} {o o' : MO} (h : M p = Option.some o) (ho : RepO K (upd H p u) p o') : RepM K (upd H p u) (up M p o') := fun a q e => by
  by_cases ha : a = p
  · subst ha; rw [up_same] at e; cases e; exact ho
  · rw [up_ne ha] at e
    exact (r a q e).stay (.at_ (r p o h).notup) (upd_ne ha)
end DL

set_option Elab.async false
set_option linter.all false
set_option maxRecDepth 100000
set_option maxHeartbeats 4000000
/-! DLb: readings over data. -/
namespace DL
open PySem L2

abbrev Ro := List (Option D)
abbrev DQ := D → Mp → Prop
abbrev WE := Ro → Mp → DQ → Prop
abbrev WT := Ro → Mp → (Bool → Mp → Prop) → Prop
abbrev WA := Ro → Mp → (List D → Mp → Prop) → Prop
abbrev Spec := List D → Mp → DQ → Prop

variable {K : PySem.W.Frag}
def RepS (K : PySem.W.Frag) (H : Hp) (σ : St) (ρ : Ro) : Prop := σ.length = ρ.length ∧ ∀ (i : Nat) (d : D), ρ[i]? = some (some d) → ∃ v, σ[i]? = some (some v) ∧ Rep K H d v
def FrOk (F : Addr → Prop) (H : Hp) (M : Mp) : Prop := ∀ a, F a → (∃ o, H a = some o) ∧ M a = none
/-- what is framed is as it was -/
def Frm (F : Addr → Prop) (H H' : Hp) (M' : Mp) : Prop := ∀ a, F a → H' a = H a ∧ M' a = none
theorem FrOk.frm {F : Addr → Prop} {H : Hp} {M : Mp} (f : FrOk F H M) : Frm F H H M := fun a h => ⟨rfl, (f a h).2⟩
theorem FrOk.next {F : Addr → Prop} {H H' : Hp} {M M' : Mp} (f : FrOk F H M) (g : Frm F H H' M') : FrOk F H' M' := fun a h => ⟨by rw [(g a h).1]; exact (f a h).1, (g a h).2⟩
theorem Frm.trans {F : Addr → Prop} {H H1 H2 : Hp} {M1 M2 : Mp} (f : Frm F H H1 M1) (g : Frm F H1 H2 M2) : Frm F H H2 M2 := fun a h => ⟨(g a h).1.trans (f a h).1, (g a h).2⟩
/-- a new object -/
theorem FrOk.new {F : Addr → Prop} {H : Hp} {M : Mp} (f : FrOk F H M) {p : Addr} {u : HO} (h : H p = none) (o : MO) : Frm F H (upd H p u) (up M p o) := fun a ha => by
  have ne : a ≠ p := fun z => by obtain ⟨⟨o, q⟩, _⟩ := f a ha; rw [z, h] at q; cases q
  exact ⟨upd_ne ne, by rw [up_ne ne]; exact (f a ha).2⟩
theorem FrOk.more {F : Addr → Prop} {H : Hp} {M : Mp} (f : FrOk F H M) {p : Addr} {u : HO} (h : H p = none) : Frm F H (upd H p u) M := fun a ha => by
  have ne : a ≠ p := fun z => by obtain ⟨⟨o, q⟩, _⟩ := f a ha; rw [z, h] at q; cases q
  exact ⟨upd_ne ne, (f a ha).2⟩
theorem FrOk.put {F : Addr → Prop} {H : Hp} {M : Mp} (f : FrOk F H M) {p : Addr} {u : HO} {o : MO} (h : M p = some o) (o' : MO) : Frm F H (upd H p u) (up M p o') := fun a ha => by
  have ne : a ≠ p := fun z => by have q := (f a ha).2; rw [z, h] at q; cases q
  exact ⟨upd_ne ne, by rw [up_ne ne]; exact (f a ha).2⟩

structure Stt (K : PySem.W.Frag) (H : Hp) (σ : St) (ρ : Ro) (M : Mp) (F : Addr → Prop) : Prop where
  rs : RepS K H σ ρ
  rm : RepM K H M
  fr : FrOk F H M
theorem Stt.next {H H' : Hp} {σ : St} {ρ : Ro} {M M' : Mp} {F : Addr → Prop} (s : Stt K H σ ρ M F) (t : TupS K H H') (f : Frm F H H' M') (r : RepM K H' M') : Stt K H' σ ρ M' F :=
  ⟨⟨s.rs.1, fun i d e => let ⟨v, e1, e2⟩ := s.rs.2 i d e; ⟨v, e1, e2.stay t⟩⟩, r, s.fr.next f⟩
theorem Stt.set {H : Hp} {σ : St} {ρ : Ro} {M : Mp} {F : Addr → Prop} (s : Stt K H σ ρ M F) {d : D} {v : V} (r : Rep K H d v) (i : Nat) : Stt K H (σ.set i (some v)) (ρ.set i (some d)) M F := by
  refine ⟨⟨by rw [List.length_set, List.length_set]; exact s.rs.1, fun j e h => ?_⟩, s.rm, s.fr⟩
  by_cases hj : i = j
  · subst hj
    by_cases hl : i < ρ.length
    · rw [List.getElem?_set_self hl] at h
      cases h
      exact ⟨v, by rw [List.getElem?_set_self (by rw [s.rs.1]; exact hl)], r⟩
    · rw [List.getElem?_eq_none (by rw [List.length_set]; omega)] at h; cases h
  · rw [List.getElem?_set_ne hj] at h
    obtain ⟨u, e1, e2⟩ := s.rs.2 j e h
    exact ⟨u, by rw [List.getElem?_set_ne hj]; exact e1, e2⟩

/-- from the wish over data to the wish over values -/
def Go (K : PySem.W.Frag) (F : Addr → Prop) (H : Hp) (Q0 : DQ) (Q : VK) : Prop := ∀ d M' v H', Q0 d M' → TupS K H H' → Frm F H H' M' → RepM K H' M' → Rep K H' d v → Q v H'
def GoT (K : PySem.W.Frag) (F : Addr → Prop) (H : Hp) (Q0 : Bool → Mp → Prop) (Q : Bool → Hp → Prop) : Prop := ∀ b M' H', Q0 b M' → TupS K H H' → Frm F H H' M' → RepM K H' M' → Q b H'
def GoA (K : PySem.W.Frag) (F : Addr → Prop) (H : Hp) (Q0 : List D → Mp → Prop) (Q : List V → Hp → Prop) : Prop := ∀ ds M' vs H', Q0 ds M' → TupS K H H' → Frm F H H' M' → RepM K H' M' → Reps K H' ds vs → Q vs H'
theorem Go.from {F : Addr → Prop} {H H1 : Hp} {M1 : Mp} {Q0 : DQ} {Q : VK} (g : Go K F H Q0 Q) (t : TupS K H H1) (f : Frm F H H1 M1) : Go K F H1 Q0 Q := fun d M' v H' q t' f' r p => g d M' v H' q (t.trans t') (f.trans f') r p
theorem GoT.from {F : Addr → Prop} {H H1 : Hp} {M1 : Mp} {Q0} {Q} (g : GoT K F H Q0 Q) (t : TupS K H H1) (f : Frm F H H1 M1) : GoT K F H1 Q0 Q := fun d M' H' q t' f' r => g d M' H' q (t.trans t') (f.trans f') r
theorem GoA.from {F : Addr → Prop} {H H1 : Hp} {M1 : Mp} {Q0} {Q} (g : GoA K F H Q0 Q) (t : TupS K H H1) (f : Frm F H H1 M1) : GoA K F H1 Q0 Q := fun d M' v H' q t' f' r p => g d M' v H' q (t.trans t') (f.trans f') r p

def tD (K : PySem.W.Frag) (w : WE) : TE := fun σ H Q => ∃ ρ M F Q0, Stt K H σ ρ M F ∧ w ρ M Q0 ∧ Go K F H Q0 Q
def tDT (K : PySem.W.Frag) (w : WT) : TT := fun σ H Q => ∃ ρ M F Q0, Stt K H σ ρ M F ∧ w ρ M Q0 ∧ GoT K F H Q0 Q
def tDA (K : PySem.W.Frag) (w : WA) : TA := fun σ H Q => ∃ ρ M F Q0, Stt K H σ ρ M F ∧ w ρ M Q0 ∧ GoA K F H Q0 Q

theorem _root_.L2.PE.imp {X : Cx} {e : Expr} {t t' : TE} (h : PE X e t) (i : ∀ σ H Q, t' σ H Q → t σ H Q) : PE X e t' := ⟨fun pins s σ H Q I q => h.run pins s σ H Q I (i σ H Q q)⟩
theorem _root_.L2.PT.imp {X : Cx} {e : Expr} {t t' : TT} (h : PT X e t) (i : ∀ σ H Q, t' σ H Q → t σ H Q) : PT X e t' := ⟨fun pins s σ H Q I q => h.run pins s σ H Q I (i σ H Q q)⟩
theorem _root_.L2.PW.imp {X : Cx} {e : Expr} {t t' : TT} (h : PW X e t) (i : ∀ σ H Q, t' σ H Q → t σ H Q) : PW X e t' := ⟨fun wh pins s σ H Q I q => h.run wh pins s σ H Q I (i σ H Q q)⟩
theorem _root_.L2.PA.imp {X : Cx} {e : List Expr} {t t' : TA} (h : PA X e t) (i : ∀ σ H Q, t' σ H Q → t σ H Q) : PA X e t' := ⟨fun pos pins s σ H Q I q => h.run pos pins s σ H Q I (i σ H Q q)⟩
theorem _root_.L2.PS.imp {X : Cx} {e : Stmt} {t t' : TS} (h : PS X e t) (i : ∀ D σ H, t' D σ H → t D σ H) : PS X e t' := ⟨fun pins s σ H D I q => h.run pins s σ H D I (i D σ H q)⟩
theorem _root_.L2.PSs.imp {X : Cx} {e : List Stmt} {t t' : TS} (h : PSs X e t) (i : ∀ D σ H, t' D σ H → t D σ H) : PSs X e t' := ⟨fun pins s σ H D I q => h.run pins s σ H D I (i D σ H q)⟩

/-! ### names, constants -/
def wVar (i : Nat) : WE := fun ρ M Q => ∃ d, ρ[i]? = some (some d) ∧ Q d M
def wC (d : D) : WE := fun _ M Q => Q d M
section
variable {X : Cx} {a b c : Expr} {wa wb wc : WE} {pos : Pos}
theorem pd_var {i : Nat} {x : Str} (h : PE X a (tVar i)) : PE X a (tD X.K (wVar i)) := h.imp fun σ H Q => by
  rintro ⟨ρ, M, F, Q0, s, ⟨d, e, q⟩, g⟩
  obtain ⟨v, e1, r⟩ := s.rs.2 i d e
  exact ⟨v, e1, g d M v H q (.refl H) s.fr.frm s.rm r⟩
theorem pd_c {d : D} {v : V} (h : PE X a (tC v)) (r : ∀ H, Rep X.K H d v) : PE X a (tD X.K (wC d)) := h.imp fun σ H Q => by
  rintro ⟨ρ, M, F, Q0, s, q, g⟩
  exact g d M v H q (.refl H) s.fr.frm s.rm (r H)
/-! ### two places -/
def rD (K : PySem.W.Frag) (f : D → D → Mp → DQ → Prop) : R2 := fun x y H Q => ∃ dx dy M F Q0, Rep K H dx x ∧ Rep K H dy y ∧ RepM K H M ∧ FrOk F H M ∧ f dx dy M Q0 ∧ Go K F H Q0 Q
def w2 (f : D → D → Mp → DQ → Prop) (wa wb : WE) : WE := fun ρ M Q => wa ρ M fun x M1 => wb ρ M1 fun y M2 => f x y M2 Q
theorem two {f : D → D → Mp → DQ → Prop} {σ : St} {H : Hp} {Q : VK} (h : tD K (w2 f wa wb) σ H Q) : tOp (rD K f) (tD K wa) (tD K wb) σ H Q := by
  obtain ⟨ρ, M, F, Q0, s, q, g⟩ := h
  refine ⟨ρ, M, F, _, s, q, fun x M1 v H1 q1 t1 f1 r1 p1 => ⟨ρ, M1, F, _, s.next t1 f1 r1, q1, fun y M2 u H2 q2 t2 f2 r2 p2 => ?_⟩⟩
  exact ⟨x, y, M2, F, Q0, p1.stay t2, p2, r2, (s.fr.next f1).next f2, q2, (g.from t1 f1).from t2 f2⟩
theorem pd_bin {op : Operator} {f : D → D → Mp → DQ → Prop} (ho : OpR X (binaryOp op) (rD X.K f)) (ha : PE X a (tD X.K wa)) (hb : PE X b (tD X.K wb)) : PE X (.BinOp a op b pos) (tD X.K (w2 f wa wb)) :=
  (pe_op ho ha hb).imp fun _ _ _ h => two h
theorem pd_cmp {op : CmpOp} {f : D → D → Mp → DQ → Prop} (ho : OpR X (compareOp op) (rD X.K f)) (ha : PE X a (tD X.K wa)) (hb : PE X b (tD X.K wb)) (hm : behindInMarks op b = false) : PE X (.Compare a [op] [b] pos) (tD X.K (w2 f wa wb)) :=
  (pe_cmpR ho ha hb hm).imp fun _ _ _ h => two h
/-- a test by a value that is a truth -/
def wTest (w : WE) : WT := fun ρ M Q => w ρ M fun d M' => ∃ k, d = .bl k ∧ Q k M'
theorem test_of {w : WE} {σ : St} {H : Hp} {Q : Bool → Hp → Prop} (h : tDT K (wTest w) σ H Q) : tTest (tD K w) σ H Q := by
  obtain ⟨ρ, M, F, Q0, s, q, g⟩ := h
  refine ⟨ρ, M, F, _, s, q, fun x M1 v H1 q1 t1 f1 r1 p1 => ?_⟩
  obtain ⟨k, rfl, q1⟩ := q1
  exact ⟨k, p1, g k M1 H1 q1 t1 f1 r1⟩
theorem pdt_cmp {op : CmpOp} {f : D → D → Mp → DQ → Prop} (ho : OpR X (compareOp op) (rD X.K f)) (ha : PE X a (tD X.K wa)) (hb : PE X b (tD X.K wb)) (hm : behindInMarks op b = false) : PT X (.Compare a [op] [b] pos) (tDT X.K (wTest (w2 f wa wb))) :=
  (pt_cmpR ho ha hb hm).imp fun _ _ _ h => two (test_of h)
/-- a chain of two comparisons -/
def w3 (f f' : D → D → Mp → DQ → Prop) (wa wb wc : WE) : WE := fun ρ M Q => wa ρ M fun x M1 => wb ρ M1 fun y M2 => f x y M2 fun z M3 => ∃ k, z = .bl k ∧ if k = true then wc ρ M3 fun u M4 => f' y u M4 Q else Q (.bl false) M3
theorem three {f f' : D → D → Mp → DQ → Prop} {σ : St} {H : Hp} {Q : VK} (h : tD K (w3 f f' wa wb wc) σ H Q) : tChain (rD K f) (rD K f') (tD K wa) (tD K wb) (tD K wc) σ H Q := by
  obtain ⟨ρ, M, F, Q0, s, q, g⟩ := h
  refine ⟨ρ, M, F, _, s, q, fun x M1 v H1 q1 t1 f1 r1 p1 => ⟨ρ, M1, F, _, s.next t1 f1 r1, q1, fun y M2 u H2 q2 t2 f2 r2 p2 => ?_⟩⟩
  have fr2 := (s.fr.next f1).next f2
  refine ⟨x, y, M2, F, _, p1.stay t2, p2, r2, fr2, q2, fun z M3 z' H3 q3 t3 f3 r3 p3 => ?_⟩
  obtain ⟨k, rfl, q3⟩ := q3
  refine ⟨k, p3, ?_⟩
  have g3 := ((g.from t1 f1).from t2 f2).from t3 f3
  cases k with
  | false =>
    rw [if_neg Bool.false_ne_true] at q3 ⊢
    exact g3 _ M3 _ H3 q3 (.refl _) (fr2.next f3).frm r3 rfl
  | true =>
    rw [if_pos rfl] at q3 ⊢
    refine ⟨ρ, M3, F, _, ((s.next t1 f1 r1).next t2 f2 r2).next t3 f3 r3, q3, fun u M4 u' H4 q4 t4 f4 r4 p4 => ?_⟩
    exact ⟨y, u, M4, F, Q0, p2.stay (t3.trans t4), p4, r4, (fr2.next f3).next f4, q4, g3.from t4 f4⟩
theorem pd_chain {op op' : CmpOp} {f f' : D → D → Mp → DQ → Prop} (ho : OpR X (compareOp op) (rD X.K f)) (ho' : OpR X (compareOp op') (rD X.K f')) (ha : PE X a (tD X.K wa)) (hb : PE X b (tD X.K wb)) (hc : PE X c (tD X.K wc))
    (hm : lastMarks [op, op'] [b, c] = false) : PE X (.Compare a [op, op'] [b, c] pos) (tD X.K (w3 f f' wa wb wc)) := (pe_chain ho ho' ha hb hc hm).imp fun _ _ _ h => three h
theorem pdt_chain {op op' : CmpOp} {f f' : D → D → Mp → DQ → Prop} (ho : OpR X (compareOp op) (rD X.K f)) (ho' : OpR X (compareOp op') (rD X.K f')) (ha : PE X a (tD X.K wa)) (hb : PE X b (tD X.K wb)) (hc : PE X c (tD X.K wc))
    (hm : lastMarks [op, op'] [b, c] = false) : PT X (.Compare a [op, op'] [b, c] pos) (tDT X.K (wTest (w3 f f' wa wb wc))) := (pt_chain ho ho' ha hb hc hm).imp fun _ _ _ h => three (test_of h)
/-! ### one place -/
def rD1 (K : PySem.W.Frag) (f : D → Mp → DQ → Prop) : V → Hp → VK → Prop := fun x H Q => ∃ dx M F Q0, Rep K H dx x ∧ RepM K H M ∧ FrOk F H M ∧ f dx M Q0 ∧ Go K F H Q0 Q
def w1 (f : D → Mp → DQ → Prop) (wa : WE) : WE := fun ρ M Q => wa ρ M fun x M1 => f x M1 Q
theorem one {f : D → Mp → DQ → Prop} {σ : St} {H : Hp} {Q : VK} (h : tD K (w1 f wa) σ H Q) : tUn (rD1 K f) (tD K wa) σ H Q := by
  obtain ⟨ρ, M, F, Q0, s, q, g⟩ := h
  refine ⟨ρ, M, F, _, s, q, fun x M1 v H1 q1 t1 f1 r1 p1 => ?_⟩
  exact ⟨x, M1, F, Q0, p1, r1, s.fr.next f1, q1, g.from t1 f1⟩
theorem pd_un {op : UnaryOp} {f : D → Mp → DQ → Prop} (ho : UnR X (unaryOp op) (rD1 X.K f)) (ha : PE X a (tD X.K wa)) : PE X (.UnaryOp op a pos) (tD X.K (w1 f wa)) := (pe_un ho ha).imp fun _ _ _ h => one h
/-! ### truth -/
def truD (d : D) (M : Mp) (k : Bool) : Prop := match d with
  | .non => k = false
  | .bl b => k = b
  | .int i => k = (i != 0)
  | .str y => y.length ≤ sizeLine ∧ k = ((y.length : Int) != 0)
  | .tup ds => k = !ds.isEmpty
  | .ref a => (∃ ds, M a = some (.lst ds) ∧ k = !ds.isEmpty) ∨ ∃ kvs, M a = some (.dK kvs) ∧ k = !kvs.isEmpty
  | .ty _ => False
theorem emp_of {H : Hp} {ds : List D} {vs : List V} (r : Reps K H ds vs) : (!ds.isEmpty) = !vs.isEmpty := by
  have e := r.length
  cases ds <;> cases vs <;> simp at e ⊢
theorem truD_ok {d : D} {M : Mp} {k : Bool} {H : Hp} {v : V} (h : truD d M k) (r : Rep K H d v) (m : RepM K H M) : TruV K v H k := by
  cases d with
  | non => cases r; exact h
  | bl b => cases r; exact h
  | int i => cases r; exact h
  | str y => cases r; exact h
  | ty n => exact h.elim
  | tup ds =>
    unfold Rep at r
    obtain ⟨a, vs, rfl, s, r⟩ := r
    exact .inr (.inl ⟨vs, s, by rw [← emp_of r]; exact h⟩)
  | ref a =>
    cases r
    rcases h with ⟨ds, e, h⟩ | ⟨kvs, e, h⟩
    · obtain ⟨vs, e1, r⟩ := m a _ e
      exact .inl ⟨vs, .of e1, by rw [← emp_of r]; exact h⟩
    · obtain ⟨vs, e1, r⟩ := m a _ e
      refine .inr (.inr ⟨vs, e1, ?_⟩)
      have e2 := r.length
      rw [h]
      cases kvs <;> cases vs <;> simp at e2 ⊢
def wTru (w : WE) : WT := fun ρ M Q => w ρ M fun d M' => ∃ k, truD d M' k ∧ Q k M'
theorem pdt_truth (ha : PE X a (tD X.K wa)) (he : ∀ whole, isTrue a X.env whole = (do let v ← whole; standAt a.pos; holding [v] (truthy v))) : PT X a (tDT X.K (wTru wa)) :=
  (pt_truth ha he).imp fun σ H Q => by
    rintro ⟨ρ, M, F, Q0, s, q, g⟩
    refine ⟨ρ, M, F, _, s, q, fun x M1 v H1 q1 t1 f1 r1 p1 => ?_⟩
    obtain ⟨k, e, q1⟩ := q1
    exact ⟨k, truD_ok e p1 r1, g k M1 H1 q1 t1 f1 r1⟩
def wAnd (t u : WT) : WT := fun ρ M Q => t ρ M fun b M1 => if b = true then u ρ M1 Q else Q false M1
def wOr (t u : WT) : WT := fun ρ M Q => t ρ M fun b M1 => if b = true then Q true M1 else u ρ M1 Q
def wNot (t : WT) : WT := fun ρ M Q => t ρ M fun b M1 => Q (!b) M1
theorem and_of {wt wu : WT} {σ : St} {H : Hp} {Q} (h : tDT K (wAnd wt wu) σ H Q) : tAnd (tDT K wt) (tDT K wu) σ H Q := by
  obtain ⟨ρ, M, F, Q0, s, q, g⟩ := h
  refine ⟨ρ, M, F, _, s, q, fun b M1 H1 q1 t1 f1 r1 => ?_⟩
  cases b with
  | true => rw [if_pos rfl] at q1 ⊢; exact ⟨ρ, M1, F, Q0, s.next t1 f1 r1, q1, g.from t1 f1⟩
  | false => rw [if_neg Bool.false_ne_true] at q1 ⊢; exact g _ M1 H1 q1 t1 f1 r1
theorem or_of {wt wu : WT} {σ : St} {H : Hp} {Q} (h : tDT K (wOr wt wu) σ H Q) : tOr (tDT K wt) (tDT K wu) σ H Q := by
  obtain ⟨ρ, M, F, Q0, s, q, g⟩ := h
  refine ⟨ρ, M, F, _, s, q, fun b M1 H1 q1 t1 f1 r1 => ?_⟩
  cases b with
  | true => rw [if_pos rfl] at q1 ⊢; exact g _ M1 H1 q1 t1 f1 r1
  | false => rw [if_neg Bool.false_ne_true] at q1 ⊢; exact ⟨ρ, M1, F, Q0, s.next t1 f1 r1, q1, g.from t1 f1⟩
theorem pdw_and {wt wu : WT} {rest : List Expr} (ha : PT X a (tDT X.K wt)) (hb : PW X (.BoolOp .And (b :: rest) pos) (tDT X.K wu)) : PW X (.BoolOp .And (a :: b :: rest) pos) (tDT X.K (wAnd wt wu)) := (pw_and ha hb).imp fun _ _ _ h => and_of h
theorem pdw_or {wt wu : WT} {rest : List Expr} (ha : PT X a (tDT X.K wt)) (hb : PW X (.BoolOp .Or (b :: rest) pos) (tDT X.K wu)) : PW X (.BoolOp .Or (a :: b :: rest) pos) (tDT X.K (wOr wt wu)) := (pw_or ha hb).imp fun _ _ _ h => or_of h
theorem pdt_not {wt : WT} (ha : PT X a (tDT X.K wt)) : PT X (.UnaryOp .Not a pos) (tDT X.K (wNot wt)) := (pt_not ha).imp fun σ H Q => by
  rintro ⟨ρ, M, F, Q0, s, q, g⟩
  exact ⟨ρ, M, F, _, s, q, fun b M1 H1 q1 t1 f1 r1 => g _ M1 H1 q1 t1 f1 r1⟩
/-! ### and, or, not as values -/
def wAndV (wa wb : WE) : WE := fun ρ M Q => wa ρ M fun x M1 => ∃ k, truD x M1 k ∧ if k = true then wb ρ M1 Q else Q x M1
def wOrV (wa wb : WE) : WE := fun ρ M Q => wa ρ M fun x M1 => ∃ k, truD x M1 k ∧ if k = true then Q x M1 else wb ρ M1 Q
def wNotV (wa : WE) : WE := fun ρ M Q => wa ρ M fun x M1 => ∃ k, truD x M1 k ∧ Q (.bl (!k)) M1
theorem pd_and {rest : List Expr} (ha : PE X a (tD X.K wa)) (hb : PE X (.BoolOp .And (b :: rest) pos) (tD X.K wb)) : PE X (.BoolOp .And (a :: b :: rest) pos) (tD X.K (wAndV wa wb)) := (pe_andT ha hb).imp fun σ H Q => by
  rintro ⟨ρ, M, F, Q0, s, q, g⟩
  refine ⟨ρ, M, F, _, s, q, fun x M1 v H1 q1 t1 f1 r1 p1 => ?_⟩
  obtain ⟨k, e, q1⟩ := q1
  refine ⟨k, truD_ok e p1 r1, ?_⟩
  cases k with
  | true => rw [if_pos rfl] at q1 ⊢; exact ⟨ρ, M1, F, Q0, s.next t1 f1 r1, q1, g.from t1 f1⟩
  | false => rw [if_neg Bool.false_ne_true] at q1 ⊢; exact g _ M1 v H1 q1 t1 f1 r1 p1
theorem pd_or {rest : List Expr} (ha : PE X a (tD X.K wa)) (hb : PE X (.BoolOp .Or (b :: rest) pos) (tD X.K wb)) : PE X (.BoolOp .Or (a :: b :: rest) pos) (tD X.K (wOrV wa wb)) := (pe_orT ha hb).imp fun σ H Q => by
  rintro ⟨ρ, M, F, Q0, s, q, g⟩
  refine ⟨ρ, M, F, _, s, q, fun x M1 v H1 q1 t1 f1 r1 p1 => ?_⟩
  obtain ⟨k, e, q1⟩ := q1
  refine ⟨k, truD_ok e p1 r1, ?_⟩
  cases k with
  | false => rw [if_neg Bool.false_ne_true] at q1 ⊢; exact ⟨ρ, M1, F, Q0, s.next t1 f1 r1, q1, g.from t1 f1⟩
  | true => rw [if_pos rfl] at q1 ⊢; exact g _ M1 v H1 q1 t1 f1 r1 p1
theorem pd_not (ha : PE X a (tD X.K wa)) : PE X (.UnaryOp .Not a pos) (tD X.K (wNotV wa)) := (pe_notT ha).imp fun σ H Q => by
  rintro ⟨ρ, M, F, Q0, s, q, g⟩
  refine ⟨ρ, M, F, _, s, q, fun x M1 v H1 q1 t1 f1 r1 p1 => ?_⟩
  obtain ⟨k, e, q1⟩ := q1
  exact ⟨k, truD_ok e p1 r1, g _ M1 _ H1 q1 t1 f1 r1 rfl⟩
def wIf (t : WT) (wa wb : WE) : WE := fun ρ M Q => t ρ M fun b M1 => if b = true then wa ρ M1 Q else wb ρ M1 Q
theorem pd_if {wt : WT} (hc : PT X c (tDT X.K wt)) (ha : PE X a (tD X.K wa)) (hb : PE X b (tD X.K wb)) : PE X (.IfExp c a b pos) (tD X.K (wIf wt wa wb)) := (pe_ifExp hc ha hb).imp fun σ H Q => by
  rintro ⟨ρ, M, F, Q0, s, q, g⟩
  refine ⟨ρ, M, F, _, s, q, fun b M1 H1 q1 t1 f1 r1 => ?_⟩
  cases b with
  | false => rw [if_neg Bool.false_ne_true] at q1 ⊢; exact ⟨ρ, M1, F, Q0, s.next t1 f1 r1, q1, g.from t1 f1⟩
  | true => rw [if_pos rfl] at q1 ⊢; exact ⟨ρ, M1, F, Q0, s.next t1 f1 r1, q1, g.from t1 f1⟩
/-! ### argument lists, displays -/
def wNil : WA := fun _ M Q => Q [] M
def wCons (w : WE) (u : WA) : WA := fun ρ M Q => w ρ M fun d M1 => u ρ M1 fun ds M2 => Q (d :: ds) M2
theorem pda_nil : PA X [] (tDA X.K wNil) := pa_nil.imp fun σ H Q => by
  rintro ⟨ρ, M, F, Q0, s, q, g⟩
  exact g [] M [] H q (.refl _) s.fr.frm s.rm .nil
theorem pda_cons {es : List Expr} {u : WA} (ha : PE X a (tD X.K wa)) (hr : PA X es (tDA X.K u)) (hs : starEach (a :: es) X.env = (false, eval a X.env) :: starEach es X.env) : PA X (a :: es) (tDA X.K (wCons wa u)) := (pa_cons ha hr hs).imp fun σ H Q => by
  rintro ⟨ρ, M, F, Q0, s, q, g⟩
  refine ⟨ρ, M, F, _, s, q, fun x M1 v H1 q1 t1 f1 r1 p1 => ⟨ρ, M1, F, _, s.next t1 f1 r1, q1, fun ds M2 vs H2 q2 t2 f2 r2 p2 => ?_⟩⟩
  exact g _ M2 _ H2 q2 (t1.trans t2) (f1.trans f2) r2 (.cons (p1.stay t2) p2)
def wTup (u : WA) : WE := fun ρ M Q => u ρ M fun ds M1 => ds.length ≤ sizeLine ∧ Q (.tup ds) M1
def wLst (u : WA) : WE := fun ρ M Q => u ρ M fun ds M1 => ds.length ≤ sizeLine ∧ ∀ p, M1 p = none → Q (.ref p) (up M1 p (.lst ds))
theorem pd_tup {es : List Expr} {u : WA} {k : Nat} (h : PA X es (tDA X.K u)) : PE X (.Tuple es k pos) (tD X.K (wTup u)) := (pe_tup h).imp fun σ H Q => by
  rintro ⟨ρ, M, F, Q0, s, q, g⟩
  refine ⟨ρ, M, F, _, s, q, fun ds M1 vs H1 q1 t1 f1 r1 p1 => ⟨by rw [← p1.length]; exact q1.1, fun p hp => ?_⟩⟩
  refine (g.from t1 f1) _ M1 _ _ q1.2 (.new hp) ((s.fr.next f1).more hp) (r1.more hp) ?_
  unfold Rep
  exact ⟨p, vs, rfl, .of upd_same, p1.stay (.new hp)⟩
theorem pd_lst {es : List Expr} {u : WA} (h : PA X es (tDA X.K u)) : PE X (.List es pos) (tD X.K (wLst u)) := (pe_lst h).imp fun σ H Q => by
  rintro ⟨ρ, M, F, Q0, s, q, g⟩
  refine ⟨ρ, M, F, _, s, q, fun ds M1 vs H1 q1 t1 f1 r1 p1 => ⟨by rw [← p1.length]; exact q1.1, fun p hp => ?_⟩⟩
  exact (g.from t1 f1) _ _ _ _ (q1.2 p (r1.none hp)) (.new hp) ((s.fr.next f1).new hp _) (r1.new hp ⟨vs, upd_same, p1.stay (.new hp)⟩) rfl
/-! ### a call of a built-in -/
def rDL (K : PySem.W.Frag) (f : Spec) : List V → Hp → VK → Prop := fun xs H Q => ∃ ds M F Q0, Reps K H ds xs ∧ RepM K H M ∧ FrOk F H M ∧ f ds M Q0 ∧ Go K F H Q0 Q
def wCall (f : Spec) (u : WA) : WE := fun ρ M Q => u ρ M fun ds M1 => f ds M1 Q
theorem callB_of {f : Spec} {u : WA} {σ : St} {H : Hp} {Q : VK} (h : tD K (wCall f u) σ H Q) : tCB (rDL K f) (tDA K u) σ H Q := by
  obtain ⟨ρ, M, F, Q0, s, q, g⟩ := h
  exact ⟨ρ, M, F, _, s, q, fun ds M1 vs H1 q1 t1 f1 r1 p1 => ⟨ds, M1, F, Q0, p1, r1, s.fr.next f1, q1, g.from t1 f1⟩⟩
end
end DL

set_option Elab.async false
set_option linter.all false
set_option maxRecDepth 100000
set_option maxHeartbeats 4000000
/-! DLbm: tuple * int, any number of times. -/
namespace DL
open PySem PySem.Spec PyProof.Rows L2
theorem tuple_mul0 (l : Addr) (items : Array Value) (n : Nat) (dd : Option Addr) (sl : Array (Option Value)) (u : Tok) (c1 : items.isEmpty = false) :
    Meets (Builtin.«tuple.__mul__» ⟨[.ref l, .int 0 u], []⟩) (fun _ R s => s.heap.get? l = some { cls := .type "tuple", dict := dd, data := .seq items n, slots := sl } ∧
      R (.ok (.ret (Value.ref s.heap.objs.size))) { s with heap := s.heap.push { cls := Value.type "tuple", data := Data.seq #[] }, toks := s.toks }) :=
  .of_wp fun prog w A R s h => by
    obtain ⟨hp, g, d, tk, os⟩ := s
    obtain ⟨hl, h⟩ := h
    have f1 := AutoSeq1.idx_int
    wp_walk using wpAny_loadPart' hl
    repeat (first
      | exact ⟨_, rfl, h⟩
      | (refine wpAny_ite_false (decide_eq_false (by simp [c1])) ?_; wp_walk using wpAny_loadPart' hl)
      | (refine wpAny_ite_true (decide_eq_true (by simp [c1])) ?_; wp_walk using wpAny_loadPart' hl))
theorem tuple_mul1 (l : Addr) (items : Array Value) (n : Nat) (dd : Option Addr) (sl : Array (Option Value)) (u : Tok) :
    Meets (Builtin.«tuple.__mul__» ⟨[.ref l, .int 1 u], []⟩) (fun _ R s => s.heap.get? l = some { cls := .type "tuple", dict := dd, data := .seq items n, slots := sl } ∧ R (.ok (.ret (Value.ref l))) s) :=
  .of_wp fun prog w A R s h => by
    obtain ⟨hp, g, d, tk, os⟩ := s
    obtain ⟨hl, h⟩ := h
    have f1 := AutoSeq1.idx_int
    wp_walk using wpAny_loadPart' hl
    repeat (first
      | exact ⟨_, rfl, h⟩
      | (refine wpAny_ite_false (decide_eq_false (by simp)) ?_; wp_walk using wpAny_loadPart' hl)
      | (refine wpAny_ite_true (decide_eq_true (by simp)) ?_; wp_walk using wpAny_loadPart' hl))
/-- a tuple that is not empty, some times -/
def rRepA (K : PySem.W.Frag) : R2 := fun x y H Q => ∃ l k xs, x = .ref l ∧ y = .int k ∧ SqT K H l xs ∧ xs ≠ [] ∧ 0 ≤ k ∧ k ≤ 1000 ∧ xs.length ≤ 1000 ∧ (k = 1 → Q (.ref l) H) ∧ (k ≠ 1 → ∀ p, H p = none → Q (.ref p) (upd H p (.tup (List.replicate k.toNat xs).flatten)))
theorem op_repA {X : Cx} : OpR X (binaryOp .Mult) (rRepA X.K) := by
  intro pins s σ H x y v u Q I rx ry h
  obtain ⟨l, k, xs, rfl, rfl, hT, hne, h1, h2, hz, q1, q⟩ := h
  by_cases k2 : 2 ≤ k
  · exact op_repT pins s σ H _ _ v u Q I rx ry ⟨l, k, xs, rfl, rfl, hT, hne, k2, h2, hz, q (by omega)⟩
  cases rx
  obtain ⟨t, rfl⟩ := ry
  obtain ⟨its, r, ⟨⟨cls, dd, data, sl⟩, ho, hc, n, hd⟩, hs⟩ := I.tuple hT
  simp only at hc hd
  subst hc hd
  have hle : its.length = xs.length := r.length.symm
  have hn : its ≠ [] := fun e => hne (by
    rw [e] at hle
    exact List.eq_nil_of_length_eq_zero hle.symm)
  have hi : its.toArray.isEmpty = false := by
    cases its with
    | nil => exact absurd rfl hn
    | cons a b => rfl
  have two : k = 0 ∨ k = 1 := by omega
  rcases two with rfl | rfl
  · refine wpAny_binaryOp_repeat_ref (T := "tuple") (U := "int") (by decide) ⟨_, ho, rfl⟩ (fun s' => typeIs_int s' 0 t) noFill_tuple_mul F.fills_int_mul F.slot_int_rmul repeat_tuple F.slot_int_index.lookup
      (call_meets F.slot_int_rmul (typeIs_int s 0 t) F.entry_int_rmul (F.args_int_rmul_2 _ _) (int_rmul_tuple 0 t l its.toArray n dd sl)
        ⟨ho, rfl, ⟨_, ho, rfl⟩, call_meets F.slot_tuple_mul ⟨_, ho, rfl⟩ F.entry_tuple_mul (F.args_tuple_mul_2 _ _) (tuple_mul0 l its.toArray n dd sl t hi) ⟨ho, ?_⟩⟩)
    exact ⟨.ref s.heap.objs.size, _, I.laid (t' := s.toks) (o := .tup []) (fun b ob q => Heap.get?_push_of_some _ q) (Nat.le_refl _) ⟨Nat.zero_le _, [], .nil, IsTup.new _ _⟩, rfl, q (by decide) _ (I.hok.fresh (Nat.le_refl _))⟩
  · refine wpAny_binaryOp_repeat_ref (T := "tuple") (U := "int") (by decide) ⟨_, ho, rfl⟩ (fun s' => typeIs_int s' 1 t) noFill_tuple_mul F.fills_int_mul F.slot_int_rmul repeat_tuple F.slot_int_index.lookup
      (call_meets F.slot_int_rmul (typeIs_int s 1 t) F.entry_int_rmul (F.args_int_rmul_2 _ _) (int_rmul_tuple 1 t l its.toArray n dd sl)
        ⟨ho, rfl, ⟨_, ho, rfl⟩, call_meets F.slot_tuple_mul ⟨_, ho, rfl⟩ F.entry_tuple_mul (F.args_tuple_mul_2 _ _) (tuple_mul1 l its.toArray n dd sl t) ⟨ho, ?_⟩⟩)
    exact ⟨.ref l, H, I, rfl, q1 rfl⟩
end DL

set_option Elab.async false
set_option linter.all false
set_option maxRecDepth 100000
set_option maxHeartbeats 4000000
/-! DLc: operators over data. -/
namespace DL
open PySem L2
variable {K : PySem.W.Frag}
mutual
inductive Dat (M : Mp) : D → PyData → Prop
  | non : Dat M .non .none
  | bl (b : Bool) : Dat M (.bl b) (.bool b)
  | int (i : Int) : Dat M (.int i) (.int i)
  | str (x : Str) : Dat M (.str x) (.str x)
  | tup {ds : List D} {ps : List PyData} : Dats M ds ps → Dat M (.tup ds) (.tuple ps)
  | lst {a : Addr} {ds : List D} {ps : List PyData} : M a = some (.lst ds) → Dats M ds ps → Dat M (.ref a) (.list ps)
inductive Dats (M : Mp) : List D → List PyData → Prop
  | nil : Dats M [] []
  | cons {d : D} {p : PyData} {ds : List D} {ps : List PyData} : Dat M d p → Dats M ds ps → Dats M (d :: ds) (p :: ps)
end
mutual
theorem Dat.dp {M : Mp} {H : Hp} (m : RepM K H M) : ∀ {d : D} {p : PyData} {v : V}, Dat M d p → Rep K H d v → Dp K H v p
  | _, _, _, .non, r => by cases r; exact .non
  | _, _, _, .bl b, r => by cases r; exact .bl b
  | _, _, _, .int i, r => by cases r; exact .int i
  | _, _, _, .str x, r => by cases r; exact .str x
  | _, _, _, .tup h, r => by
    unfold Rep at r
    obtain ⟨a, vs, rfl, s, r⟩ := r
    exact .tup s (Dats.dp m h r)
  | _, _, _, .lst e h, r => by
    cases r
    obtain ⟨vs, e1, r⟩ := m _ _ e
    exact .lst (.of e1) (Dats.dp m h r)
theorem Dats.dp {M : Mp} {H : Hp} (m : RepM K H M) : ∀ {d : List D} {p : List PyData} {v : List V}, Dats M d p → Reps K H d v → DpAll K H v p
  | _, _, _, .nil, r => by unfold Reps at r; subst r; exact .nil
  | _, _, _, .cons h1 h2, r => by
    unfold Reps at r
    obtain ⟨v, vs, rfl, r1, r2⟩ := r
    exact .cons (Dat.dp m h1 r1) (Dats.dp m h2 r2)
end
mutual
/-- data without addresses -/
def plain : D → Bool
  | .tup ds => plains ds
  | .ref _ => false
  | .ty _ => false
  | _ => true
def plains : List D → Bool
  | [] => true
  | d :: ds => plain d && plains ds
end
mutual
def py : D → PyData
  | .non => .none
  | .bl b => .bool b
  | .int i => .int i
  | .str x => .str x
  | .tup ds => .tuple (pys ds)
  | .ref _ => .none
  | .ty _ => .none
def pys : List D → List PyData
  | [] => []
  | d :: ds => py d :: pys ds
end
theorem pys_map : ∀ ds : List D, pys ds = ds.map py
  | [] => by unfold pys; rfl
  | d :: ds => by unfold pys; rw [pys_map ds]; rfl
mutual
theorem Dat.plain {M : Mp} : ∀ {d : D}, DL.plain d = true → Dat M d (py d)
  | .non, _ => by unfold py; exact .non
  | .bl b, _ => by unfold py; exact .bl b
  | .int i, _ => by unfold py; exact .int i
  | .str x, _ => by unfold py; exact .str x
  | .tup ds, h => by unfold py; unfold DL.plain at h; exact .tup (Dats.plain h)
  | .ref _, h => by unfold DL.plain at h; cases h
  | .ty _, h => by unfold DL.plain at h; cases h
theorem Dats.plain {M : Mp} : ∀ {d : List D}, DL.plains d = true → Dats M d (pys d)
  | [], _ => by unfold pys; exact .nil
  | d :: ds, h => by
    unfold pys; unfold plains at h
    rw [Bool.and_eq_true] at h
    exact .cons (Dat.plain h.1) (Dats.plain h.2)
end
section
variable {X : Cx}
/-- what is asked of operators' room -/
abbrev Ru (X : Cx) : Prop := X.A.units + 65 < cLine
/-! ### == and != -/
def eqD (neg : Bool) : D → D → Mp → DQ → Prop := fun x y M Q => (∃ p q, Dat M x p ∧ Dat M y q ∧ SeqAt.shaped p = true ∧ SeqAt.shaped q = true ∧ Q (.bl (if neg then !PyData.eqv p q else PyData.eqv p q)) M) ∨
  ∃ a b : Str, x = .str a ∧ y = .str b ∧ Q (.bl (if neg then !decide (a = b) else decide (a = b))) M
theorem dec_strV {a b : Str} : decide (V.str a = V.str b) = decide (a = b) := by rw [Bool.eq_iff_iff]; simp
theorem od_eq (hu : Ru X) : OpR X (compareOp .Eq) (rD X.K (eqD false)) := fun pins s σ H x y v u Q I rx ry h => by
  obtain ⟨dx, dy, M, F, Q0, r1, r2, m, fr, ⟨p, q, h1, h2, s1, s2, hq⟩ | ⟨a, b, rfl, rfl, hq⟩, g⟩ := h
  · exact op_eqD (by have := hu; omega) pins s σ H x y v u Q I rx ry ⟨p, q, h1.dp m r1, h2.dp m r2, s1, s2, g _ M _ H hq (.refl _) fr.frm m rfl⟩
  · cases r1; cases r2
    exact op_eq pins s σ H _ _ v u Q I rx ry ⟨rfl, by rw [dec_strV]; exact g _ M _ H hq (.refl _) fr.frm m rfl⟩
theorem od_ne (hu : Ru X) : OpR X (compareOp .NotEq) (rD X.K (eqD true)) := fun pins s σ H x y v u Q I rx ry h => by
  obtain ⟨dx, dy, M, F, Q0, r1, r2, m, fr, ⟨p, q, h1, h2, s1, s2, hq⟩ | ⟨a, b, rfl, rfl, hq⟩, g⟩ := h
  · exact op_neD (by have := hu; omega) pins s σ H x y v u Q I rx ry ⟨p, q, h1.dp m r1, h2.dp m r2, s1, s2, g _ M _ H hq (.refl _) fr.frm m rfl⟩
  · cases r1; cases r2
    exact op_ne pins s σ H _ _ v u Q I rx ry ⟨rfl, by rw [dec_strV]; exact g _ M _ H hq (.refl _) fr.frm m rfl⟩
/-! ### <, <=, >, >= of data of one kind -/
inductive Ord where | lt | le | gt | ge
def Ord.op : Ord → CmpOp | .lt => .Lt | .le => .LtE | .gt => .Gt | .ge => .GtE
def Ord.of (o : Ord) (p q : PyData) : Bool := match o with
  | .lt => PySem.W.dataLt p q | .le => !PySem.W.dataLt q p | .gt => PySem.W.dataLt q p | .ge => !PySem.W.dataLt p q
def ordD (o : Ord) : D → D → Mp → DQ → Prop := fun x y M Q => (∃ i j, x = .int i ∧ y = .int j ∧ Q (.bl (match o with | .lt => decide (i < j) | .le => decide (i ≤ j) | .gt => decide (j < i) | .ge => decide (j ≤ i))) M) ∨
  (∃ p q, Dat M x p ∧ Dat M y q ∧ PySem.W.alike p q = true ∧ p ≠ .none ∧ p.depth ≤ 64 ∧ Q (.bl (o.of p q)) M)
theorem od_ord (o : Ord) (hu : Ru X) : OpR X (compareOp o.op) (rD X.K (ordD o)) := fun pins s σ H x y v u Q I rx ry h => by
  obtain ⟨dx, dy, M, F, Q0, r1, r2, m, fr, h, g⟩ := h
  rcases h with ⟨i, j, rfl, rfl, hq⟩ | ⟨p, q, h1, h2, al, nn, dp, hq⟩
  · cases r1; cases r2
    have e := g _ M _ H hq (.refl _) fr.frm m rfl
    cases o
    · exact op_lt pins s σ H _ _ v u Q I rx ry ⟨i, j, rfl, rfl, e⟩
    · exact op_le pins s σ H _ _ v u Q I rx ry ⟨i, j, rfl, rfl, e⟩
    · exact op_gt pins s σ H _ _ v u Q I rx ry ⟨i, j, rfl, rfl, e⟩
    · exact op_ge pins s σ H _ _ v u Q I rx ry ⟨i, j, rfl, rfl, e⟩
  · obtain ⟨as, e1⟩ := Dp.reads I p x v (h1.dp m r1) rx
    obtain ⟨bs, e2⟩ := Dp.reads I q y u (h2.dp m r2) ry
    have hr : X.A.units + min p.depth q.depth < cLine := by have := hu; have := Nat.min_le_left p.depth q.depth; omega
    have e : EP X pins σ Q (.bool (o.of p q)) s := ⟨.bl (o.of p q), H, I, rfl, g _ M _ H hq (.refl _) fr.frm m rfl⟩
    cases o
    · exact PySem.W.lt_data e1 e2 al nn hr e
    · exact PySem.W.le_data e1 e2 al nn hr e
    · exact PySem.W.gt_data e1 e2 al nn hr e
    · exact PySem.W.ge_data e1 e2 al nn hr e
/-! ### in, not in -/
def negB (neg b : Bool) : Bool := if neg then !b else b
def keyD : D → Option Key
  | .int i => some (.inl i)
  | .str x => some (.inr x)
  | _ => none
/-- items of a list or a tuple -/
def seqD (M : Mp) (y : D) (ds : List D) : Prop := y = .tup ds ∨ ∃ a, y = .ref a ∧ M a = some (.lst ds)
def inD (neg : Bool) : D → D → Mp → DQ → Prop := fun x y M Q =>
  (∃ p ds ps, Dat M x p ∧ seqD M y ds ∧ Dats M ds ps ∧ SeqAt.shaped p = true ∧ PyData.canLayAll0 ps = true ∧ Q (.bl (negB neg (ps.any fun z => PyData.eqv z p))) M) ∨
  (∃ (c : Nat) (z : Str), x = .str ⟨#[c]⟩ ∧ y = .str z ∧ Q (.bl (negB neg (decide (c ∈ z.cps.toList)))) M)
theorem od_in (neg : Bool) (hu : Ru X) : OpR X (compareOp (if neg then .NotIn else .In)) (rD X.K (inD neg)) := fun pins s σ H x y v u Q I rx ry h => by
  obtain ⟨dx, dy, M, F, Q0, r1, r2, m, fr, h, g⟩ := h
  rcases h with ⟨p, ds, ps, h1, h2, h3, s1, s2, hq⟩ | ⟨c, z, rfl, rfl, hq⟩
  · obtain ⟨as, e1⟩ := Dp.reads I p x v (h1.dp m r1) rx
    have hr : X.A.units + 1 + min (PyData.depthAll ps) p.depth < cLine := by
      have := hu; have := Nat.min_le_right (PyData.depthAll ps) p.depth; have := SeqAt.depth_of_shaped s1; omega
    have e : EP X pins σ Q (.bool (negB neg (ps.any fun z => PyData.eqv z p))) s := ⟨.bl _, H, I, rfl, g _ M _ H hq (.refl _) fr.frm m rfl⟩
    rcases h2 with rfl | ⟨a, rfl, ha⟩
    · obtain ⟨bs, e2⟩ := Dp.reads I (.tuple ps) y u ((Dat.tup h3).dp m r2) ry
      cases neg
      · exact SeqAt.in_tuple_reads e2 e1 s2 (SeqAt.canLay_of_shaped s1) hr e
      · exact SeqAt.notIn_tuple_reads e2 e1 s2 (SeqAt.canLay_of_shaped s1) hr e
    · obtain ⟨bs, e2⟩ := Dp.reads I (.list ps) y u ((Dat.lst ha h3).dp m r2) ry
      cases neg
      · exact SeqAt.in_list_reads e2 e1 s2 (SeqAt.canLay_of_shaped s1) hr e
      · exact SeqAt.notIn_list_reads e2 e1 s2 (SeqAt.canLay_of_shaped s1) hr e
  · cases r1; cases r2
    have e := g _ M _ H hq (.refl _) fr.frm m rfl
    cases neg
    · exact op_in_sign pins s σ H _ _ v u Q I rx ry ⟨c, z, rfl, rfl, e⟩
    · exact op_notIn_sign pins s σ H _ _ v u Q I rx ry ⟨c, z, rfl, rfl, e⟩
/-! ### is, is not: None, truths -/
def isNon : D → Bool | .non => true | _ => false
def isD (neg : Bool) : D → D → Mp → DQ → Prop := fun x y M Q =>
  (y = .non ∧ Q (.bl (negB neg (isNon x))) M) ∨ (∃ a b : Bool, x = .bl a ∧ y = .bl b ∧ Q (.bl (negB neg (decide (a = b)))) M)
theorem od_is (neg : Bool) : OpR X (compareOp (if neg then .IsNot else .Is)) (rD X.K (isD neg)) := fun pins s σ H x y v u Q I rx ry h => by
  obtain ⟨dx, dy, M, F, Q0, r1, r2, m, fr, h, g⟩ := h
  rcases h with ⟨rfl, hq⟩ | ⟨a, b, rfl, rfl, hq⟩
  · cases r2
    have e0 : decide (x = V.non) = isNon dx := by
      cases dx <;> (try (cases r1; rfl))
      unfold Rep at r1
      obtain ⟨a, vs, rfl, _⟩ := r1
      rfl
    have e := g _ M _ H hq (.refl _) fr.frm m rfl
    cases neg
    · exact op_isN pins s σ H _ _ v u Q I rx ry ⟨rfl, by rw [e0]; exact e⟩
    · exact op_notN pins s σ H _ _ v u Q I rx ry ⟨rfl, by rw [e0]; exact e⟩
  · cases r1; cases r2
    have e := g _ M _ H hq (.refl _) fr.frm m rfl
    cases neg
    · exact op_isBl pins s σ H _ _ v u Q I rx ry ⟨a, b, rfl, rfl, e⟩
    · exact op_notBl pins s σ H _ _ v u Q I rx ry ⟨a, b, rfl, rfl, e⟩
/-! ### + -/
def addD : D → D → Mp → DQ → Prop := fun x y M Q => match x, y with
  | .int i, .int j => Q (.int (i + j)) M
  | .str a, .str b => a.length + b.length ≤ sizeLine ∧ Q (.str (a ++ b)) M
  | .tup xs, .tup ys => xs.length + ys.length ≤ sizeLine ∧ Q (.tup (xs ++ ys)) M
  | .ref a, .ref b => ∃ xs ys, M a = some (.lst xs) ∧ M b = some (.lst ys) ∧ xs.length + ys.length ≤ sizeLine ∧ ∀ p, M p = none → Q (.ref p) (up M p (.lst (xs ++ ys)))
  | _, _ => False
theorem od_add : OpR X (binaryOp .Add) (rD X.K addD) := fun pins s σ H x y v u Q I rx ry h => by
  obtain ⟨dx, dy, M, F, Q0, r1, r2, m, fr, h, g⟩ := h
  cases dx <;> cases dy <;> (try exact h.elim)
  · cases r1; cases r2
    exact op_add pins s σ H _ _ v u Q I rx ry ⟨_, _, rfl, rfl, g _ M _ H h (.refl _) fr.frm m rfl⟩
  · cases r1; cases r2
    exact op_add_str pins s σ H _ _ v u Q I rx ry ⟨_, _, rfl, rfl, h.1, g _ M _ H h.2 (.refl _) fr.frm m rfl⟩
  · cases r1; cases r2
    obtain ⟨xs, ys, e1, e2, hz, h⟩ := h
    obtain ⟨vs, q1, p1⟩ := m _ _ e1
    obtain ⟨us, q2, p2⟩ := m _ _ e2
    refine op_cat pins s σ H _ _ v u Q I rx ry ⟨_, _, vs, us, rfl, rfl, q1, q2, by rw [← p1.length, ← p2.length]; exact hz, fun p hp => ?_⟩
    exact g _ _ _ _ (h p (m.none hp)) (.new hp) (fr.new hp _) (m.new hp ⟨_, upd_same, (p1.append p2).stay (.new hp)⟩) rfl
  · unfold Rep at r1 r2
    obtain ⟨a, vs, rfl, q1, p1⟩ := r1
    obtain ⟨b, us, rfl, q2, p2⟩ := r2
    refine op_catA pins s σ H _ _ v u Q I rx ry ⟨a, b, vs, us, rfl, rfl, q1, q2, by rw [← p1.length, ← p2.length]; exact h.1, fun e => ?_, fun e e2 => ?_, fun e e2 p hp => ?_⟩
    · refine g _ M _ H h.2 (.refl _) fr.frm m ?_
      subst e
      have e3 := p1.length
      rw [List.length_nil, List.length_eq_zero_iff] at e3
      subst e3
      unfold Rep
      exact ⟨b, us, rfl, q2, p2⟩
    · refine g _ M _ H h.2 (.refl _) fr.frm m ?_
      subst e2
      have e3 := p2.length
      rw [List.length_nil, List.length_eq_zero_iff] at e3
      subst e3
      rw [List.append_nil]
      unfold Rep
      exact ⟨a, vs, rfl, q1, p1⟩
    · refine g _ M _ _ h.2 (.new hp) (fr.more hp) (m.more hp) ?_
      unfold Rep
      exact ⟨p, _, rfl, .of upd_same, (p1.append p2).stay (.new hp)⟩
/-! ### numbers -/
def intD (C : Int → Int → Prop) (f : Int → Int → Int) : D → D → Mp → DQ → Prop := fun x y M Q => ∃ i j, x = .int i ∧ y = .int j ∧ C i j ∧ Q (.int (f i j)) M
theorem od_int {op : Operator} {C : Int → Int → Prop} {f : Int → Int → Int} (h : OpR X (binaryOp op) (rI C fun i j => .int (f i j))) : OpR X (binaryOp op) (rD X.K (intD C f)) := fun pins s σ H x y v u Q I rx ry hh => by
  obtain ⟨dx, dy, M, F, Q0, r1, r2, m, fr, ⟨i, j, rfl, rfl, hc, hq⟩, g⟩ := hh
  cases r1; cases r2
  exact h pins s σ H _ _ v u Q I rx ry ⟨i, j, rfl, rfl, hc, g _ M _ H hq (.refl _) fr.frm m rfl⟩
theorem op_sub' : OpR X (binaryOp .Sub) (rI (fun _ _ => True) fun i j => .int (i - j)) := fun pins s σ H x y v u Q I rx ry h => by
  obtain ⟨i, j, e1, e2, _, q⟩ := h
  exact op_sub pins s σ H x y v u Q I rx ry ⟨i, j, e1, e2, q⟩
/-- a tuple or a list some times, a number times a number -/
def mulD : D → D → Mp → DQ → Prop := fun x y M Q => match x, y with
  | .int i, .int j => CMul i j ∧ Q (.int (i * j)) M
  | .ref a, .int k => ∃ xs, M a = some (.lst xs) ∧ 0 ≤ k ∧ k < 2 ^ 62 ∧ xs.length * k.toNat ≤ sizeLine ∧ ∀ p, M p = none → Q (.ref p) (up M p (.lst (List.replicate k.toNat xs).flatten))
  | .tup xs, .int k => xs ≠ [] ∧ 0 ≤ k ∧ k ≤ 1000 ∧ xs.length ≤ 1000 ∧ Q (.tup (List.replicate k.toNat xs).flatten) M
  | _, _ => False
theorem Reps.times {H : Hp} {ds : List D} {vs : List V} (r : Reps K H ds vs) : ∀ n : Nat, Reps K H (List.replicate n ds).flatten (List.replicate n vs).flatten
  | 0 => by rw [List.replicate_zero, List.replicate_zero]; exact .nil
  | n + 1 => by rw [List.replicate_succ, List.replicate_succ, List.flatten_cons, List.flatten_cons]; exact r.append (r.times n)
theorem od_mul : OpR X (binaryOp .Mult) (rD X.K mulD) := fun pins s σ H x y v u Q I rx ry h => by
  obtain ⟨dx, dy, M, F, Q0, r1, r2, m, fr, h, g⟩ := h
  cases dx <;> cases dy <;> (try exact h.elim)
  · cases r1; cases r2
    exact op_mul pins s σ H _ _ v u Q I rx ry ⟨_, _, rfl, rfl, h.1, g _ M _ H h.2 (.refl _) fr.frm m rfl⟩
  · cases r1; cases r2
    obtain ⟨xs, e1, k0, k1, hz, h⟩ := h
    obtain ⟨vs, q1, p1⟩ := m _ _ e1
    refine op_rep pins s σ H _ _ v u Q I rx ry ⟨_, _, vs, rfl, rfl, q1, by omega, by omega, by rw [← p1.length]; exact hz, fun p hp => ?_⟩
    exact g _ _ _ _ (h p (m.none hp)) (.new hp) (fr.new hp _) (m.new hp ⟨_, upd_same, (p1.times _).stay (.new hp)⟩) rfl
  · rename_i xs k
    cases r2
    obtain ⟨hn, k0, k1, hz, h⟩ := h
    unfold Rep at r1
    obtain ⟨l, vs, rfl, sq, p1⟩ := r1
    have el := p1.length
    refine op_repA pins s σ H _ _ v u Q I rx ry ⟨l, k, vs, rfl, rfl, sq, fun e => hn (List.eq_nil_of_length_eq_zero (by rw [el, e]; rfl)), k0, k1, by rw [← el]; exact hz, fun e => ?_, fun _ p hp => ?_⟩
    · subst e
      have e1 : (List.replicate (1 : Int).toNat xs).flatten = xs := by show (List.replicate 1 xs).flatten = xs; simp
      rw [e1] at h
      exact g _ M _ H h (.refl _) fr.frm m (by unfold Rep; exact ⟨l, vs, rfl, sq, p1⟩)
    · exact g _ M _ _ h (.new hp) (fr.more hp) (m.more hp) (by unfold Rep; exact ⟨p, _, rfl, .of upd_same, (p1.times _).stay (.new hp)⟩)
end
end DL

set_option Elab.async false
set_option linter.all false
set_option maxRecDepth 100000
set_option maxHeartbeats 4000000
/-! DLt: sorted of tuples of which the first is empty. -/
namespace DL
open PySem PySem.W PySem.SeqAt PySem.Calls PyProof.Rows
section
variable {prog : Program} {w : World} {A : Around} {E : Value → Shared → Prop} {s : Shared}
theorem call_tuple_lt' {Q : Value → Shared → Prop} {l b : Addr} {items items2 : Array Value} {e r : Nat → Bool} (hl : s.heap.IsTuple l items) (hb : s.heap.IsTuple b items2)
    (he : ∀ j (h1 : j < items.size) (h2 : j < items2.size), EqAt A.in1 s items[j] items2[j] (e j)) (hr : ∀ j (h1 : j < items.size) (h2 : j < items2.size), e j = false → RcLt A.in1 s items[j] items2[j] (r j))
    (h : Q (.bool (firstLt e r (decide (items.size < items2.size)) (List.range (min items.size items2.size)))) s) : wpAny (model prog w) A (call (.builtin "tuple.__lt__") [.ref l, .ref b]) Q E s := by
  obtain ⟨⟨cls, dd, data, sl⟩, ho, hc, n, hd⟩ := id hl
  obtain ⟨⟨cls2, dd2, data2, sl2⟩, ho2, hc2, n2, hd2⟩ := id hb
  simp only at hc hd hc2 hd2
  subst hc hd hc2 hd2
  exact call_meets F.slot_tuple_lt ⟨_, ho, rfl⟩ F.entry_tuple_lt (F.args_tuple_lt_2 _ _) (tuple_ltAt l b items items2 n n2 dd dd2 sl sl2 e r) ⟨ho, ho2, he, hr, h⟩
theorem oneLt_tup {xs ys : List PyData} {a b : Value} {as bs : List Addr} {Q : Bool → Shared → Prop} (ra : Reads s.heap a (.tuple xs) as) (rb : Reads s.heap b (.tuple ys) bs) (hal : alikeAll xs ys = true)
    (hu : A.units + min (PyData.tuple xs).depth (PyData.tuple ys).depth < cLine) (hq : Q (dataLt (.tuple xs) (.tuple ys)) s) : wpAny (model prog w) A (oneLt' true a b) Q E s := by
  cases ra with
  | @tuple l o vs n _ as₁ h1 h2 h3 h4 =>
    cases rb with
    | @tuple l' o' vs' n' _ bs₁ k1 k2 k3 k4 =>
      have n1 : vs.size = xs.length := by simpa using ReadsAll.length _ _ _ h4
      have n2 : vs'.size = ys.length := by simpa using ReadsAll.length _ _ _ k4
      rw [dataLt_tuple, ← firstLt_toks xs ys hal, ← n1, ← n2] at hq
      rw [oneLt'_eq]
      simp only [if_true]
      refine wpAny_bind (wpAny_cRoomFor (room_here hu) ?_)
      refine wpAny_bind (wpAny_callSpecialIfBound?_slot (T := "tuple") ⟨_, h1, h2⟩ F.slot_tuple_lt (call_tuple_lt' (e := pairEq xs ys) (r := fun j => dataLt (xs.getD j .none) (ys.getD j .none)) ⟨_, h1, h2, _, h3⟩ ⟨_, k1, k2, _, k3⟩ (fun j j1 j2 => ?_) (fun j j1 j2 hj => ?_) ?_))
      · have := eqAt_alikeAll xs ys A.in1 s vs.toList vs'.toList _ _ h4 k4 hal (room_in hu) j (by simpa using j1) (by simpa using j2)
        simpa using this
      · have := rcLt_alikeAll xs ys A.in1 s vs.toList vs'.toList _ _ h4 k4 hal (room_in hu) j (by simpa using j1) (by simpa using j2) hj
        simpa using this
      · exact wpAny_truthy_bool hq
theorem firsts_any {M : Model} : ∀ (vs : List Value) (ds : List PyData), EachIs (fun v d => ∃ as, Reads s.heap v d as) vs ds → (∀ d ∈ ds, ∃ xs, d = .tuple xs) →
    ∃ fs : List (Option Value), (∀ rest, ds = .tuple [] :: rest → ∃ r, fs = none :: r) ∧ ∀ Q : List (Option Value) → Shared → Prop, Q fs s → wpAny M A (vs.mapM firstOfTuple') Q E s
  | _, _, .nil, _ => ⟨[], fun r e => (by cases e), fun Q h => by rw [List.mapM_nil]; exact wpAny_pure h⟩
  | _, _, .cons (a := v) (b := d) (as := vs) (bs := ds) ⟨as, r⟩ t, ht => by
    obtain ⟨fs, _, f2⟩ := firsts_any (M := M) vs ds t fun d hd => ht d (List.mem_cons_of_mem _ hd)
    obtain ⟨xs, rfl⟩ := ht _ List.mem_cons_self
    cases r with
    | @tuple a o us n _ _ ho hc hd hr =>
      refine ⟨us[0]? :: fs, fun rest e => ?_, fun Q h => ?_⟩
      · cases e
        have e0 : us.toList = [] := by
          generalize us.toList = z at hr
          cases hr
          rfl
        have e1 : us = #[] := by simpa using e0
        subst e1
        exact ⟨fs, rfl⟩
      · rw [List.mapM_cons]
        refine wpAny_bind ?_
        rw [kas_first_eq]
        refine wpAny_bind (Looks.here (show Looks M s.heap (typeOf (.ref a)) o.cls from (Looks.ld ho).andThen .now) ?_)
        rw [hc, if_neg (by first | decide | simp)]
        refine wpAny_bind (listItems_at ho hd (wpAny_pure ?_))
        exact wpAny_bind (f2 _ (wpAny_pure h))
theorem kind_one {M : Model} {vs : List Value} {rest : List PyData} {Q : SortKind → Shared → Prop} (e : EachIs (fun v d => ∃ as, Reads s.heap v d as) vs (.tuple [] :: rest)) (ht : ∀ d ∈ PyData.tuple [] :: rest, ∃ xs, d = .tuple xs) (h : Q oneType' s) :
    wpAny M A (keyKind' vs.toArray) Q E s := by
  obtain ⟨fs, f1, f2⟩ := firsts_any (M := M) (A := A) (E := E) vs _ e ht
  obtain ⟨r, rfl⟩ := f1 rest rfl
  have hT : ∀ v ∈ vs, Looks M s.heap (typeOf v) (.type "tuple") := fun v hv => by
    obtain ⟨d, hd, as, rd⟩ := e.left v hv
    obtain ⟨xs, rfl⟩ := ht d hd
    exact looks_reads rd
  cases e with
  | @cons v₁ _ vs' _ hv t =>
  rw [kat_kind_eq, List.mapM_toArray, map_eq_pure_bind]
  refine wpAny_bind (wpAny_bind (f2 _ (wpAny_pure ?_)))
  rw [if_neg (by simp), if_neg (by simp)]
  rw [oneTypeOnly'_eq, List.mapM_toArray, map_eq_pure_bind]
  refine wpAny_bind (wpAny_bind (wpAny_bind (kas_mapM (r := Value.type "tuple") _ (fun v hv Q' hq => (hT v hv).here hq) (wpAny_pure ?_))))
  have hall : ((List.map (fun _ => Value.type "tuple") (v₁ :: vs')).toArray.all fun x => x == Value.type "tuple") = true := by
    simp only [List.all_toArray, List.all_map, List.all_eq_true]
    intro _ _
    exact beq_self_eq_true _
  have h0 : (List.map (fun _ => Value.type "tuple") (v₁ :: vs')).toArray[0]? = some (.type "tuple") := by simp
  rw [h0]
  simp only [hall, if_true]
  exact wpAny_pure (wpAny_pure h)
theorem sorts0 {vs : List Value} {rest : List PyData} (e : EachIs (fun v d => ∃ as, Reads s.heap v d as) vs (.tuple [] :: rest)) (hal : AllAlike (.tuple [] :: rest)) (ht : ∀ d ∈ PyData.tuple [] :: rest, ∃ xs, d = .tuple xs) (hu : ∀ d, d ∈ PyData.tuple [] :: rest → A.units + d.depth < cLine) :
    SortsAt prog w A s (dataKind s.heap (.tuple [] :: rest)) vs := by
  refine ⟨fun v hv => ?_, oneType', ?_, fun h2 E Q hq => kind_one e ht hq⟩
  · obtain ⟨d, hd, as, r⟩ := e.left v hv
    exact ⟨_, dataKind_some hal hd r⟩
  · intro E x y a b Q ha hb hq
    obtain ⟨d, as, hd, ra, rfl⟩ := dataKind_inv ha
    obtain ⟨d', as', hd', rb, rfl⟩ := dataKind_inv hb
    rw [keyLt'_oneType]
    have hdd := hal d hd d' hd'
    have hroom : A.units + min d.depth d'.depth < cLine := Nat.lt_of_le_of_lt (Nat.add_le_add_left (Nat.min_le_left _ _) _) (hu d hd)
    obtain ⟨xs, rfl⟩ := ht d hd
    obtain ⟨ys, rfl⟩ := ht d' hd'
    exact oneLt_tup ra rb (by simpa [alike] using hdd) hroom hq
theorem sorted_data0 {β : Type} {vs : List Value} {b0 : β} {bs : List β} {enc : β → PyData} {R : Value → β → Prop} {l : Addr} {Q : Value → Shared → Prop} (hl : s.heap.IsList l vs.toArray) (e : EachIs R vs (b0 :: bs)) (er : EachIs (fun v b => ∃ as, Reads s.heap v (enc b) as) vs (b0 :: bs)) (hal : AllAlike ((b0 :: bs).map enc))
    (h0 : enc b0 = .tuple []) (ht : ∀ b ∈ bs, ∃ xs, enc b = .tuple xs) (hL : (b0 :: bs).length ≤ sizeLine) (hu : ∀ b, b ∈ b0 :: bs → A.units + 2 + (enc b).depth < cLine)
    (h : ∀ out, out.length = (b0 :: bs).length → EachIs R out ((b0 :: bs).mergeSort (dataLe false enc)) → Q (.ref (s.heap.objs.size + 1)) { s with heap := sortedAll s.heap vs (List.toArray out) }) :
    wpAny (model prog w) A (call (.builtin "sorted") [.ref l]) Q E s := by
  have er' : EachIs (fun v b => ∃ as, Reads (sortingHeap (copyHeap s.heap vs) (s.heap.objs.size + 1) vs) v (enc b) as) vs (b0 :: bs) := er.mono fun _ _ ⟨as, r⟩ => ⟨as, PyProof.Rows.Reads.keeps (fun _ _ => sorting_copy_old) r⟩
  have ht' : ∀ d ∈ PyData.tuple [] :: bs.map enc, ∃ xs, d = .tuple xs := fun d hd => by
    rcases List.mem_cons.mp hd with rfl | hd
    · exact ⟨[], rfl⟩
    · obtain ⟨b, hb, rfl⟩ := List.mem_map.mp hd
      exact ht b hb
  have em : (b0 :: bs).map enc = .tuple [] :: bs.map enc := by rw [List.map_cons, h0]
  have S : SortsAt prog w A.in1.in1 { s with heap := sortingHeap (copyHeap s.heap vs) (s.heap.objs.size + 1) vs } (dataKind (sortingHeap (copyHeap s.heap vs) (s.heap.objs.size + 1) vs) (.tuple [] :: bs.map enc)) vs := by
    refine sorts0 (s := { s with heap := sortingHeap (copyHeap s.heap vs) (s.heap.objs.size + 1) vs }) ?_ (by rw [← em]; exact hal) ht' ?_
    · rw [← em]; exact each_map (R := fun v d => ∃ as, Reads (sortingHeap (copyHeap s.heap vs) (s.heap.objs.size + 1) vs) v d as) enc er'
    · rw [← em]; exact bound_map hu
  rw [← em] at S
  exact sorted_vals hl S (by rw [e.length]; exact hL) (h _ (by rw [sortVals_length false rfl]; exact e.length) (sortVals_data false e er' hal))
end
end DL

set_option Elab.async false
set_option linter.all false
set_option maxRecDepth 100000
set_option maxHeartbeats 4000000
/-! DLd: subscripts, slices, calls of built-ins. -/
namespace DL
open PySem L2
variable {K : PySem.W.Frag}
section
variable {X : Cx} {a b c : Expr} {wa wb wc : WE} {pos : Pos}
/-! ### subscripts -/
def ixD : D → D → Mp → DQ → Prop := fun x y M Q =>
  (∃ ds i d, seqD M x ds ∧ y = .int i ∧ atI ds i = some d ∧ Q d M) ∨
  (∃ z i c, x = .str z ∧ y = .int i ∧ z.length ≤ sizeLine ∧ atI z.cps.toList i = some c ∧ Q (.str ⟨#[c]⟩) M) ∨
  (∃ p ns i n, x = .ref p ∧ M p = some (.scr ns) ∧ y = .int i ∧ atI ns i = some n ∧ Q (.int n) M)
theorem Reps.atI {H : Hp} {ds : List D} {vs : List V} {i : Int} {d : D} (r : Reps K H ds vs) (h : L2.atI ds i = some d) : ∃ v, L2.atI vs i = some v ∧ Rep K H d v := by
  unfold L2.atI at h ⊢
  rw [← r.length]
  cases e : ixN ds.length i with
  | none => rw [e] at h; cases h
  | some j =>
    rw [e] at h
    exact r.get h
theorem ixd : IxR X (rD X.K ixD) := fun value slice pins s σ H x y v u Q I rx ry h hs => by
  obtain ⟨dx, dy, M, F, Q0, r1, r2, m, fr, h, g⟩ := h
  rcases h with ⟨ds, i, d, sq, rfl, e, hq⟩ | ⟨z, i, c, rfl, rfl, hz, e, hq⟩ | ⟨p, ns, i, n, rfl, e0, rfl, e, hq⟩
  · cases r2
    rcases sq with rfl | ⟨p, rfl, e0⟩
    · unfold Rep at r1
      obtain ⟨p, vs, rfl, q1, p1⟩ := r1
      obtain ⟨w, e1, rw⟩ := p1.atI e
      exact ix_tup value slice pins s σ H _ _ v u Q I rx ry ⟨p, vs, i, w, rfl, rfl, q1, e1, g _ M _ H hq (.refl _) fr.frm m rw⟩ hs
    · cases r1
      obtain ⟨vs, q1, p1⟩ := m _ _ e0
      obtain ⟨w, e1, rw⟩ := p1.atI e
      exact ix_list value slice pins s σ H _ _ v u Q I rx ry ⟨p, vs, i, w, rfl, rfl, .of q1, e1, g _ M _ H hq (.refl _) fr.frm m rw⟩ hs
  · cases r1; cases r2
    exact ix_str value slice pins s σ H _ _ v u Q I rx ry ⟨z, i, c, rfl, rfl, hz, e, g _ M _ H hq (.refl _) fr.frm m rfl⟩ hs
  · cases r1; cases r2
    obtain ⟨o, q1⟩ := m _ _ e0
    have p1 : Reps X.K H (ns.map D.int) (ns.map V.int) := .ints ns
    have e' : L2.atI (ns.map D.int) i = some (.int n) := by
      unfold L2.atI at e ⊢
      rw [List.length_map]
      cases q : ixN ns.length i with
      | none => rw [q] at e; cases e
      | some j => rw [q] at e; show (ns.map D.int)[j]? = _; rw [List.getElem?_map, show ns[j]? = some n from e]; rfl
    obtain ⟨w, e1, rw⟩ := p1.atI e'
    exact ix_list value slice pins s σ H _ _ v u Q I rx ry ⟨p, _, i, w, rfl, rfl, .inl (.inr ⟨o, q1⟩), e1, g _ M _ H hq (.refl _) fr.frm m rw⟩ hs
theorem pd_ix (ha : PE X a (tD X.K wa)) (hb : PE X b (tD X.K wb)) (hs : PlainIx b) : PE X (.Subscript a b pos) (tD X.K (w2 ixD wa wb)) :=
  (pe_ix ixd ha hb hs).imp fun _ _ _ h => two h
/-! ### slices -/
abbrev WO := Ro → Mp → (Option Int → Mp → Prop) → Prop
def GoO (K : PySem.W.Frag) (F : Addr → Prop) (H : Hp) (Q0 : Option Int → Mp → Prop) (Q : Option Int → Hp → Prop) : Prop := ∀ o M' H', Q0 o M' → TupS K H H' → Frm F H H' M' → RepM K H' M' → Q o H'
def tDO (K : PySem.W.Frag) (w : WO) : TO := fun σ H Q => ∃ ρ M F Q0, Stt K H σ ρ M F ∧ w ρ M Q0 ∧ GoO K F H Q0 Q
theorem _root_.L2.PO.imp {e : Option Expr} {t t' : TO} (h : PO X e t) (i : ∀ σ H Q, t' σ H Q → t σ H Q) : PO X e t' := ⟨fun pins s σ H Q I q => h.run pins s σ H Q I (i σ H Q q)⟩
def wO0 : WO := fun _ M Q => Q none M
def wO1 (w : WE) : WO := fun ρ M Q => w ρ M fun d M1 => ∃ i, d = .int i ∧ Q (some i) M1
theorem pdo_none : PO X none (tDO X.K wO0) := po_none.imp fun σ H Q => by
  rintro ⟨ρ, M, F, Q0, s, q, g⟩
  exact g _ M H q (.refl _) s.fr.frm s.rm
theorem pdo_some (h : PE X a (tD X.K wa)) : PO X (some a) (tDO X.K (wO1 wa)) := (po_some h).imp fun σ H Q => by
  rintro ⟨ρ, M, F, Q0, s, q, g⟩
  refine ⟨ρ, M, F, _, s, q, fun x M1 v H1 q1 t1 f1 r1 p1 => ?_⟩
  obtain ⟨i, rfl, q1⟩ := q1
  exact ⟨i, p1, g _ M1 H1 q1 t1 f1 r1⟩
def cutL {α : Type} (xs : List α) (lo hi : Option Int) : List α := (xs.drop (HT.sIx xs.length 0 lo)).take (HT.sIx xs.length xs.length hi - HT.sIx xs.length 0 lo)
def slD : D → Option Int → Option Int → Mp → DQ → Prop := fun x lo hi M Q => match x with
  | .tup ds => Q (.tup (cutL ds lo hi)) M
  | .str z => z.length ≤ sizeLine ∧ Q (.str (cutS z lo hi)) M
  | .ref p => ∃ ds, M p = some (.lst ds) ∧ ∀ l, M l = none → Q (.ref l) (up M l (.lst (cutL ds lo hi)))
  | _ => False
def rDS (K : PySem.W.Frag) (f : D → Option Int → Option Int → Mp → DQ → Prop) : V → Option Int → Option Int → Hp → VK → Prop := fun x lo hi H Q => ∃ dx M F Q0, Rep K H dx x ∧ RepM K H M ∧ FrOk F H M ∧ f dx lo hi M Q0 ∧ Go K F H Q0 Q
theorem Reps.cut {H : Hp} {ds : List D} {vs : List V} (r : Reps K H ds vs) (lo hi : Option Int) : Reps K H (cutL ds lo hi) (cutV vs lo hi) := by
  unfold cutL cutV
  rw [r.length]
  exact (r.drop _).take _
theorem cut_all {α : Type} {xs : List α} {lo hi : Option Int} (h : HT.sIx xs.length 0 lo = 0 ∧ HT.sIx xs.length xs.length hi = xs.length) : cutL xs lo hi = xs := by
  unfold cutL
  rw [h.1, h.2, List.drop_zero, Nat.sub_zero, List.take_length]
theorem sld : SlR X (rDS X.K slD) := fun pins s σ H x v vl vu lo hi sl Q I rx hs pl pu h => by
  obtain ⟨dx, M, F, Q0, r1, m, fr, h, g⟩ := h
  cases dx <;> (try exact h.elim)
  · cases r1
    exact sl_str pins s σ H _ v vl vu lo hi sl Q I rx hs pl pu ⟨_, rfl, h.1, g _ M _ H h.2 (.refl _) fr.frm m rfl⟩
  · cases r1
    obtain ⟨ds, e0, h⟩ := h
    obtain ⟨vs, q1, p1⟩ := m _ _ e0
    exact sl_list pins s σ H _ v vl vu lo hi sl Q I rx hs pl pu ⟨_, vs, rfl, .of q1, fun p hp => g _ _ _ _ (h p (m.none hp)) (.new hp) (fr.new hp _) (m.new hp ⟨_, upd_same, (p1.cut lo hi).stay (.new hp)⟩) rfl⟩
  · unfold Rep at r1
    obtain ⟨p, vs, rfl, q1, p1⟩ := r1
    have el := p1.length
    refine sl_tupA pins s σ H _ v vl vu lo hi sl Q I rx hs pl pu ⟨p, vs, rfl, q1, fun e => ?_, fun _ l hl => ?_⟩
    · refine g _ M _ H h (.refl _) fr.frm m ?_
      rw [cut_all (by rw [el]; exact e)]
      unfold Rep
      exact ⟨p, vs, rfl, q1, p1⟩
    · refine g _ M _ _ h (.new hl) (fr.more hl) (m.more hl) ?_
      unfold Rep
      exact ⟨l, _, rfl, .of upd_same, (p1.cut lo hi).stay (.new hl)⟩
def wSl (wa : WE) (wl wh : WO) : WE := fun ρ M Q => wa ρ M fun x M1 => wl ρ M1 fun l M2 => wh ρ M2 fun h M3 => slD x l h M3 Q
theorem pd_slice {lo hi : Option Expr} {wl wh : WO} {p2 : Pos} (ha : PE X a (tD X.K wa)) (hl : PO X lo (tDO X.K wl)) (hh : PO X hi (tDO X.K wh)) : PE X (.Subscript a (.Slice lo hi none p2) pos) (tD X.K (wSl wa wl wh)) :=
  (pe_slice sld ha hl hh).imp fun σ H Q => by
    rintro ⟨ρ, M, F, Q0, s, q, g⟩
    refine ⟨ρ, M, F, _, s, q, fun x M1 v H1 q1 t1 f1 r1 p1 => ?_⟩
    refine ⟨ρ, M1, F, _, s.next t1 f1 r1, q1, fun l M2 H2 q2 t2 f2 r2 => ?_⟩
    refine ⟨ρ, M2, F, _, (s.next t1 f1 r1).next t2 f2 r2, q2, fun h M3 H3 q3 t3 f3 r3 => ?_⟩
    exact ⟨x, M3, F, Q0, p1.stay (t2.trans t3), r3, ((s.fr.next f1).next f2).next f3, q3, ((g.from t1 f1).from t2 f2).from t3 f3⟩
/-! ### built-ins -/
theorem _root_.L2.CallR.lift {f : Value} {r : List V → Hp → VK → Prop} {S : Spec} (h : CallR X f r) (i : ∀ ds M F H Q0 Q vs, Reps X.K H ds vs → RepM X.K H M → FrOk F H M → S ds M Q0 → Go X.K F H Q0 Q → r vs H Q) : CallR X f (rDL X.K S) :=
  fun pins s σ H xs us Q I rv hh => by
    obtain ⟨ds, M, F, Q0, r1, m, fr, hs, g⟩ := hh
    exact h pins s σ H xs us Q I rv (i ds M F H Q0 Q xs r1 m fr hs g)
theorem Reps.one {H : Hp} {d : D} {vs : List V} (r : Reps K H [d] vs) : ∃ v, vs = [v] ∧ Rep K H d v := by
  unfold Reps at r
  obtain ⟨v, q, rfl, r1, r2⟩ := r
  unfold Reps at r2
  subst r2
  exact ⟨v, rfl, r1⟩
theorem Reps.two {H : Hp} {d e : D} {vs : List V} (r : Reps K H [d, e] vs) : ∃ v u, vs = [v, u] ∧ Rep K H d v ∧ Rep K H e u := by
  unfold Reps at r
  obtain ⟨v, q, rfl, r1, r2⟩ := r
  obtain ⟨u, rfl, r3⟩ := r2.one
  exact ⟨v, u, rfl, r1, r3⟩
def lenOf (d : D) (M : Mp) (n : Nat) : Prop := match d with
  | .tup ds => n = ds.length
  | .str z => z.length ≤ sizeLine ∧ n = z.length
  | .ref a => (∃ ds, M a = some (.lst ds) ∧ n = ds.length) ∨ ∃ ns, M a = some (.scr ns) ∧ n = ns.length
  | _ => False
def lenS : Spec := fun ds M Q => ∃ d n, ds = [d] ∧ lenOf d M n ∧ Q (.int (n : Nat)) M
theorem cd_len : CallR X (.builtin "len") (rDL X.K lenS) := call_len.lift fun ds M F H Q0 Q vs r m fr h g => by
  obtain ⟨d, n, rfl, h, q⟩ := h
  obtain ⟨v, rfl, rr⟩ := r.one
  refine ⟨v, n, rfl, ?_, g _ M _ H q (.refl _) fr.frm m rfl⟩
  cases d <;> (try exact h.elim)
  · cases rr; exact h
  · cases rr
    rcases h with ⟨ds, e, h⟩ | ⟨ns, e, h⟩
    · obtain ⟨vs, q1, p1⟩ := m _ _ e
      exact .inl ⟨vs, .of q1, by rw [h, p1.length]⟩
    · obtain ⟨o, q1⟩ := m _ _ e
      exact .inl ⟨_, .inl (.inr ⟨o, q1⟩), by rw [h, List.length_map]⟩
  · unfold Rep at rr
    obtain ⟨p, vs, rfl, q1, p1⟩ := rr
    exact .inr ⟨vs, q1, by rw [← p1.length]; exact h⟩
def tupleS : Spec := fun ds M Q => ∃ d xs, ds = [d] ∧ seqD M d xs ∧ Q (.tup xs) M
theorem cd_tuple : CallR X (.type "tuple") (rDL X.K tupleS) := call_tuple_of.lift fun ds M F H Q0 Q vs r m fr h g => by
  obtain ⟨d, xs, rfl, h, q⟩ := h
  obtain ⟨v, rfl, rr⟩ := r.one
  rcases h with rfl | ⟨a, rfl, e⟩
  · have r0 := rr
    unfold Rep at rr
    obtain ⟨p, vs, rfl, q1, p1⟩ := rr
    exact ⟨p, vs, rfl, .inr ⟨q1, g _ M _ H q (.refl _) fr.frm m r0⟩⟩
  · cases rr
    obtain ⟨vs, q1, p1⟩ := m _ _ e
    refine ⟨a, vs, rfl, .inl ⟨.of q1, fun l hl => ?_⟩⟩
    refine g _ M _ _ q (.new hl) (fr.more hl) (m.more hl) ?_
    unfold Rep
    exact ⟨l, vs, rfl, .of upd_same, p1.stay (.new hl)⟩
def listS0 : Spec := fun ds M Q => ∃ d xs, ds = [d] ∧ seqD M d xs ∧ ∀ p, M p = none → Q (.ref p) (up M p (.lst xs))
theorem cd_list0 : CallR X (.type "list") (rDL X.K listS0) := call_list_of.lift fun ds M F H Q0 Q vs r m fr h g => by
  obtain ⟨d, xs, rfl, h, q⟩ := h
  obtain ⟨v, rfl, rr⟩ := r.one
  rcases h with rfl | ⟨a, rfl, e⟩
  · unfold Rep at rr
    obtain ⟨p, vs, rfl, q1, p1⟩ := rr
    exact ⟨p, vs, rfl, .inr q1, fun l hl => g _ _ _ _ (q l (m.none hl)) (.new hl) (fr.new hl _) (m.new hl ⟨_, upd_same, p1.stay (.new hl)⟩) rfl⟩
  · cases rr
    obtain ⟨vs, q1, p1⟩ := m _ _ e
    exact ⟨a, vs, rfl, .inl (.of q1), fun l hl => g _ _ _ _ (q l (m.none hl)) (.new hl) (fr.new hl _) (m.new hl ⟨_, upd_same, p1.stay (.new hl)⟩) rfl⟩
def strL (x : Str) : List D := x.cps.toList.map fun c => .str ⟨#[c]⟩
def listT : Spec := fun ds M Q => ∃ x, ds = [.str x] ∧ x.length ≤ sizeLine ∧ ∀ p, M p = none → Q (.ref p) (up M p (.lst (strL x)))
theorem reps_strs {H : Hp} : ∀ cs : List Nat, Reps K H (cs.map fun c => D.str ⟨#[c]⟩) (cs.map fun c => V.str ⟨#[c]⟩)
  | [] => .nil
  | c :: cs => .cons rfl (reps_strs cs)
theorem vals_signs {x : Str} : ∀ (us : List Value) (cs : List Nat), us.length = cs.length → (∀ (j : Nat) (v : Value), us[j]? = some v → ∃ (c : Nat) (u : Tok), cs[j]? = some c ∧ v = Value.str ⟨#[c]⟩ u) → Vals (cs.map fun c => V.str ⟨#[c]⟩) us
  | [], [], _, _ => .nil
  | [], _ :: _, h, _ => by cases h
  | _ :: _, [], h, _ => by cases h
  | v :: us, c :: cs, h, hs => by
    obtain ⟨c', u, e, rfl⟩ := hs 0 v rfl
    cases e
    exact .cons ⟨u, rfl⟩ (vals_signs (x := x) us cs (by simpa using h) fun j v hv => hs (j + 1) v hv)
theorem cd_listT (hc : X.calm = true) : CallR X (.type "list") (rDL X.K listT) := fun pins s σ H xs us Q I rv hh => by
  obtain ⟨ds, M, F, Q0, r1, m, fr, ⟨x, rfl, hz, q⟩, g⟩ := hh
  obtain ⟨v, rfl, rr⟩ := r1.one
  cases rr
  obtain ⟨u, rfl, t, rfl⟩ := vals1 rv
  refine call_list_str (I.ok.hd hc) x t (hn := hz) fun h' tk acc' c' hk hS' hacc => ?_
  have hn : H s.heap.objs.size = none := I.hok.fresh (Nat.le_refl _)
  have hv : Vals (x.cps.toList.map fun c => V.str ⟨#[c]⟩) acc'.toList := by
    refine vals_signs (x := x) _ _ (by simp [hacc.1]) fun j v hv => ?_
    obtain ⟨c, u, hc, rfl⟩ := hacc.2 j v (by simpa using hv)
    exact ⟨c, u, by simpa using hc, rfl⟩
  refine ⟨.ref s.heap.objs.size, upd H s.heap.objs.size (.lst (x.cps.toList.map fun c => V.str ⟨#[c]⟩)), I.laid (t' := tk) hk (Nat.le_refl _) ?_, rfl, g _ _ _ _ (q _ (m.none hn)) (.new hn) (fr.new hn _) (m.new hn ⟨_, upd_same, reps_strs _⟩) rfl⟩
  exact ⟨by rw [List.length_map, Array.length_toList]; exact hz, acc'.toList, c', hv, by simpa using hS'⟩
def listS : Spec := fun ds M Q => listS0 ds M Q ∨ listT ds M Q
theorem cd_list (hc : X.calm = true) : CallR X (.type "list") (rDL X.K listS) := fun pins s σ H xs us Q I rv hh => by
  obtain ⟨ds, M, F, Q0, r1, m, fr, h, g⟩ := hh
  rcases h with h | h
  · exact cd_list0 pins s σ H xs us Q I rv ⟨ds, M, F, Q0, r1, m, fr, h, g⟩
  · exact cd_listT hc pins s σ H xs us Q I rv ⟨ds, M, F, Q0, r1, m, fr, h, g⟩
theorem Reps.bls {H : Hp} : ∀ {bs : List Bool} {vs : List V}, Reps K H (bs.map D.bl) vs → vs = bs.map V.bl
  | [], _, h => by unfold Reps at h; exact h
  | b :: bs, _, h => by
    unfold Reps at h
    obtain ⟨v, r, rfl, h1, h2⟩ := h
    cases h1
    rw [Reps.bls h2]
    rfl
theorem Reps.ints' {H : Hp} : ∀ {bs : List Int} {vs : List V}, Reps K H (bs.map D.int) vs → vs = bs.map V.int
  | [], _, h => by unfold Reps at h; exact h
  | b :: bs, _, h => by
    unfold Reps at h
    obtain ⟨v, r, rfl, h1, h2⟩ := h
    cases h1
    rw [Reps.ints' h2]
    rfl
def allS : Spec := fun ds M Q => ∃ (a : Addr) (bs : List Bool), ds = [.ref a] ∧ M a = some (.lst (bs.map D.bl)) ∧ Q (.bl (bs.all id)) M
def anyS : Spec := fun ds M Q => ∃ (a : Addr) (bs : List Bool), ds = [.ref a] ∧ M a = some (.lst (bs.map D.bl)) ∧ Q (.bl (bs.any id)) M
def sumS : Spec := fun ds M Q => ∃ (a : Addr) (ns : List Int), ds = [.ref a] ∧ M a = some (.lst (ns.map D.int)) ∧ Q (.int ns.sum) M
theorem cd_all (hc : X.calm = true) : CallR X (.builtin "all") (rDL X.K allS) := (cr_all hc).lift fun ds M F H Q0 Q vs r m fr h g => by
  obtain ⟨a, bs, rfl, e, q⟩ := h
  obtain ⟨v, rfl, rr⟩ := r.one
  cases rr
  obtain ⟨vs, q1, p1⟩ := m _ _ e
  rw [p1.bls] at q1
  exact ⟨a, bs, rfl, .of q1, g _ M _ H q (.refl _) fr.frm m rfl⟩
theorem cd_any (hc : X.calm = true) : CallR X (.builtin "any") (rDL X.K anyS) := (cr_any hc).lift fun ds M F H Q0 Q vs r m fr h g => by
  obtain ⟨a, bs, rfl, e, q⟩ := h
  obtain ⟨v, rfl, rr⟩ := r.one
  cases rr
  obtain ⟨vs, q1, p1⟩ := m _ _ e
  rw [p1.bls] at q1
  exact ⟨a, bs, rfl, .of q1, g _ M _ H q (.refl _) fr.frm m rfl⟩
theorem cd_sum (hc : X.calm = true) : CallR X (.builtin "sum") (rDL X.K sumS) := (cr_sum hc).lift fun ds M F H Q0 Q vs r m fr h g => by
  obtain ⟨a, bs, rfl, e, q⟩ := h
  obtain ⟨v, rfl, rr⟩ := r.one
  cases rr
  obtain ⟨vs, q1, p1⟩ := m _ _ e
  rw [p1.ints'] at q1
  exact ⟨a, bs, rfl, .of q1, g _ M _ H q (.refl _) fr.frm m rfl⟩
def maxS : Spec := fun ds M Q => ∃ i j, ds = [.int i, .int j] ∧ Q (.int (if j > i then j else i)) M
def minS : Spec := fun ds M Q => ∃ i j, ds = [.int i, .int j] ∧ Q (.int (if j < i then j else i)) M
theorem cd_max (hc : X.calm = true) : CallR X (.builtin "max") (rDL X.K maxS) := (call_max2 hc).lift fun ds M F H Q0 Q vs r m fr h g => by
  obtain ⟨i, j, rfl, q⟩ := h
  obtain ⟨v, u, rfl, rr, rr'⟩ := r.two
  cases rr; cases rr'
  exact ⟨i, j, rfl, g _ M _ H q (.refl _) fr.frm m rfl⟩
theorem cd_min (hc : X.calm = true) : CallR X (.builtin "min") (rDL X.K minS) := (call_min2 hc).lift fun ds M F H Q0 Q vs r m fr h g => by
  obtain ⟨i, j, rfl, q⟩ := h
  obtain ⟨v, u, rfl, rr, rr'⟩ := r.two
  cases rr; cases rr'
  exact ⟨i, j, rfl, g _ M _ H q (.refl _) fr.frm m rfl⟩
def absS : Spec := fun ds M Q => ∃ i, ds = [.int i] ∧ Q (.int (if i < 0 then -i else i)) M
theorem cd_abs : CallR X (.builtin "abs") (rDL X.K absS) := call_abs.lift fun ds M F H Q0 Q vs r m fr h g => by
  obtain ⟨i, rfl, q⟩ := h
  obtain ⟨v, rfl, rr⟩ := r.one
  obtain rfl : v = V.int i := rr
  exact ⟨i, rfl, g _ M _ H q (.refl _) fr.frm m rfl⟩
def intS : Spec := fun ds M Q => (∃ i, ds = [.int i] ∧ Q (.int i) M) ∨ ∃ k : Bool, ds = [.bl k] ∧ Q (.int (if k then 1 else 0)) M
theorem cd_int : CallR X (.type "int") (rDL X.K intS) := call_int1.lift fun ds M F H Q0 Q vs r m fr h g => by
  rcases h with ⟨i, rfl, q⟩ | ⟨i, rfl, q⟩
  · obtain ⟨v, rfl, rr⟩ := r.one
    obtain rfl : v = V.int i := rr
    exact .inl ⟨i, rfl, g _ M _ H q (.refl _) fr.frm m rfl⟩
  · obtain ⟨v, rfl, rr⟩ := r.one
    obtain rfl : v = V.bl i := rr
    exact .inr ⟨i, rfl, g _ M _ H q (.refl _) fr.frm m rfl⟩
def strS : Spec := fun ds M Q => ∃ i : Int, ds = [.int i] ∧ i.natAbs.log2 < 1920 ∧ Q (.str (toString i)) M
theorem cd_str : CallR X (.type "str") (rDL X.K strS) := call_str_int.lift fun ds M F H Q0 Q vs r m fr h g => by
  obtain ⟨i, rfl, hz, q⟩ := h
  obtain ⟨v, rfl, rr⟩ := r.one
  obtain rfl : v = V.int i := rr
  exact ⟨i, rfl, hz, g _ M _ H q (.refl _) fr.frm m rfl⟩
/-! ### sorted -/
def sortD (ds : List D) : List D := ds.mergeSort (PySem.W.dataLe false py)
def Sort0 (xs : List D) : Prop := PySem.W.Sortable (xs.map py) ∨ ((∃ rest, xs = .tup [] :: rest) ∧ ∀ x ∈ xs, ∃ ys, x = .tup ys)
def sortedS : Spec := fun ds M Q => ∃ (a : Addr) (xs : List D), ds = [.ref a] ∧ M a = some (.lst xs) ∧ plains xs = true ∧ PySem.W.AllAlike (xs.map py) ∧ Sort0 xs ∧ (∀ x ∈ xs, (py x).depth ≤ 60) ∧ ∀ p, M p = none → Q (.ref p) (up M p (.lst (sortD xs)))
theorem each_of {pins : List (Addr × Obj)} {σ : L2.St} {H : Hp} {s : Shared} (I : Inv X pins σ H s) : ∀ {xs : List D} {vs : List V} {us : List Value}, Reps X.K H xs vs → Vals vs us → plains xs = true →
    PySem.W.EachIs (fun (u : Value) (d : D) => ∃ v, RelV v u ∧ Rep X.K H d v) us xs ∧ PySem.W.EachIs (fun (u : Value) (d : D) => ∃ as, Reads s.heap u (py d) as) us xs
  | [], _, _, r, rv, _ => by
    unfold Reps at r; subst r
    cases rv
    exact ⟨.nil, .nil⟩
  | x :: xs, _, _, r, rv, hp => by
    unfold Reps at r
    obtain ⟨v, vs, rfl, r1, r2⟩ := r
    unfold plains at hp
    rw [Bool.and_eq_true] at hp
    cases rv with
    | cons q1 q2 =>
      obtain ⟨h1, h2⟩ := each_of I r2 q2 hp.2
      have m0 : RepM X.K H (fun _ => none) := fun a o e => by cases e
      exact ⟨.cons ⟨v, q1, r1⟩ h1, .cons (Dp.reads I _ v _ ((Dat.plain hp.1).dp m0 r1) q1) h2⟩
theorem of_each {H : Hp} : ∀ {us : List Value} {xs : List D}, PySem.W.EachIs (fun (u : Value) (d : D) => ∃ v, RelV v u ∧ Rep K H d v) us xs → ∃ vs, Vals vs us ∧ Reps K H xs vs
  | _, _, .nil => ⟨[], .nil, .nil⟩
  | _, _, .cons ⟨v, q, r⟩ e => by
    obtain ⟨vs, h1, h2⟩ := of_each e
    exact ⟨v :: vs, .cons q h1, .cons r h2⟩
theorem cd_sorted (hu : Ru X) : CallR X (.builtin "sorted") (rDL X.K sortedS) := fun pins s σ H xs us Q I rv hh => by
  obtain ⟨ds, M, F, Q0, r1, m, fr, ⟨a, xs, rfl, e, hp, al, so, dp, q⟩, g⟩ := hh
  obtain ⟨v, rfl, rr⟩ := r1.one
  cases rr
  obtain ⟨vs, q1, p1⟩ := m _ _ e
  obtain ⟨u, rfl, ru⟩ := vals1 rv
  obtain rfl : u = Value.ref a := ru
  obtain ⟨its, rl, hl, hz⟩ := I.list (SqL.of (K := X.K) q1)
  obtain ⟨h1, h2⟩ := each_of I p1 rl hp
  suffices fin : _ by
    rcases so with so | ⟨⟨rest, e0⟩, so⟩
    · exact PySem.W.sorted_data (R := fun (u : Value) (d : D) => ∃ v, RelV v u ∧ Rep X.K H d v) (enc := py) hl.isList h1 h2 al so (by rw [p1.length]; exact hz) (fun b hb => by have := hu; have := dp b hb; omega) fin
    · subst e0
      exact sorted_data0 (R := fun (u : Value) (d : D) => ∃ v, RelV v u ∧ Rep X.K H d v) (enc := py) hl.isList h1 h2 al (by simp [py, pys]) (fun b hb => by obtain ⟨ys, rfl⟩ := so b (List.mem_cons_of_mem _ hb); exact ⟨pys ys, by unfold py; rfl⟩) (by rw [p1.length]; exact hz) (fun b hb => by have := hu; have := dp b hb; omega) fin
  intro out hlen ho
  obtain ⟨vs', w1, w2⟩ := of_each ho
  have hn : H (s.heap.objs.size + 1) = none := I.hok.fresh (by omega)
  have ez : out.length ≤ sizeLine := by rw [hlen, p1.length]; exact hz
  refine ⟨.ref (s.heap.objs.size + 1), upd H (s.heap.objs.size + 1) (.lst vs'), ?_, rfl, g _ _ _ _ (q _ (m.none hn)) (.new hn) (fr.new hn _) (m.new hn ⟨vs', upd_same, w2.stay (.new hn)⟩) rfl⟩
  obtain ⟨c, hc⟩ := PyProof.Rows.sortedAll_at s.heap its out.toArray
  refine I.laid (t' := s.toks) (fun b o e => ?_) (by omega) ⟨by rw [w1.length]; exact ez, out, c, w1, hc⟩
  exact PyProof.Rows.sortedAll_old e
end
end DL

set_option Elab.async false
set_option linter.all false
set_option maxRecDepth 100000
set_option maxHeartbeats 4000000
/-! DLe: targets, what is walked, comprehensions, loops. -/
namespace DL
open PySem L2 RZ
variable {K : PySem.W.Frag}
/-! ### targets -/
mutual
inductive Tg where
  | name (i : Nat)
  | tup (ts : Tgs)
inductive Tgs where
  | nil
  | cons (t : Tg) (ts : Tgs)
end
mutual
def Tg.asn : Tg → D → Ro → Option Ro
  | .name i, d, ρ => some (ρ.set i (some d))
  | .tup ts, .tup ds, ρ => ts.asn ds ρ
  | _, _, _ => none
def Tgs.asn : Tgs → List D → Ro → Option Ro
  | .nil, [], ρ => some ρ
  | .cons t ts, d :: ds, ρ => match t.asn d ρ with
    | some ρ' => ts.asn ds ρ'
    | none => none
  | _, _, _ => none
end
mutual
def Tg.slots : Tg → List Nat
  | .name i => [i]
  | .tup ts => ts.slots
def Tgs.slots : Tgs → List Nat
  | .nil => []
  | .cons t ts => t.slots ++ ts.slots
end
/-- alike but at some places -/
def Off (vs : List Nat) (σ σ' : St) : Prop := σ'.length = σ.length ∧ ∀ j, j ∉ vs → σ'[j]? = σ[j]?
theorem Off.refl (vs : List Nat) (σ : St) : Off vs σ σ := ⟨rfl, fun _ _ => rfl⟩
theorem Off.trans {vs : List Nat} {σ σ1 σ2 : St} (a : Off vs σ σ1) (b : Off vs σ1 σ2) : Off vs σ σ2 := ⟨b.1.trans a.1, fun j h => (b.2 j h).trans (a.2 j h)⟩
theorem Off.mono {vs us : List Nat} {σ σ1 : St} (a : Off vs σ σ1) (h : ∀ j ∈ vs, j ∈ us) : Off us σ σ1 := ⟨a.1, fun j hj => a.2 j fun z => hj (h j z)⟩
theorem Off.set (σ : St) (i : Nat) (v : Option V) : Off [i] σ (σ.set i v) := ⟨List.length_set, fun j h => by rw [List.getElem?_set_ne]; intro e; exact h (by simp [e])⟩
/-- a target's reading -/
def gD (K : PySem.W.Frag) (t : Tg) : TG := fun v σ H Q => ∃ d ρ ρ' M F, Rep K H d v ∧ Stt K H σ ρ M F ∧ t.asn d ρ = some ρ' ∧ ∀ σ', Off t.slots σ σ' → Stt K H σ' ρ' M F → Q σ' H
def gDs (K : PySem.W.Frag) (t : Tgs) : TGs := fun vs σ H Q => ∃ ds ρ ρ' M F, Reps K H ds vs ∧ Stt K H σ ρ M F ∧ t.asn ds ρ = some ρ' ∧ ∀ σ', Off t.slots σ σ' → Stt K H σ' ρ' M F → Q σ' H
theorem _root_.L2.PG.imp {X : Cx} {e : Expr} {t t' : TG} (h : PG X e t) (i : ∀ v σ H Q, t' v σ H Q → t v σ H Q) : PG X e t' := ⟨fun pins s σ H v u Q I r q => h.run pins s σ H v u Q I r (i v σ H Q q)⟩
theorem _root_.L2.PGs.imp {X : Cx} {e : List Expr} {t t' : TGs} (h : PGs X e t) (i : ∀ v σ H Q, t' v σ H Q → t v σ H Q) : PGs X e t' := ⟨fun pins s σ H v u Q I r q => h.run pins s σ H v u Q I r (i v σ H Q q)⟩
section
variable {X : Cx} {a b c : Expr} {wa wb wc : WE} {pos : Pos}
theorem pgd_name {i : Nat} {e : Expr} (h : PG X e (gName i)) : PG X e (gD X.K (.name i)) := h.imp fun v σ H Q => by
  rintro ⟨d, ρ, ρ', M, F, r, s, e, q⟩
  unfold Tg.asn at e
  cases e
  exact q _ (by unfold Tg.slots; exact Off.set σ i _) (s.set r i)
theorem pgds_nil : PGs X [] (gDs X.K .nil) := pgs_nil.imp fun v σ H Q => by
  rintro ⟨ds, ρ, ρ', M, F, r, s, e, q⟩
  cases ds with
  | nil =>
    unfold Reps at r
    unfold Tgs.asn at e
    cases e
    exact ⟨r, q σ (.refl _ _) s⟩
  | cons d ds => unfold Tgs.asn at e; cases e
theorem pgds_cons {e : Expr} {es : List Expr} {t : Tg} {ts : Tgs} (h1 : PG X e (gD X.K t)) (h2 : PGs X es (gDs X.K ts)) (hs : (assignEach (e :: es) X.env).map (·.2) = assign e X.env :: (assignEach es X.env).map (·.2)) :
    PGs X (e :: es) (gDs X.K (.cons t ts)) := (pgs_cons h1 h2 hs).imp fun v σ H Q => by
  rintro ⟨ds, ρ, ρ', M, F, r, s, e, q⟩
  cases ds with
  | nil => unfold Tgs.asn at e; cases e
  | cons d ds =>
    unfold Reps at r
    obtain ⟨v, vs, rfl, r1, r2⟩ := r
    unfold Tgs.asn at e
    cases e1 : t.asn d ρ with
    | none => rw [e1] at e; cases e
    | some ρ1 =>
      rw [e1] at e
      refine ⟨v, vs, rfl, d, ρ, ρ1, M, F, r1, s, e1, fun σ1 o1 s1 => ⟨ds, ρ1, ρ', M, F, r2, s1, e, fun σ2 o2 s2 => q σ2 ?_ s2⟩⟩
      unfold Tgs.slots
      exact (o1.mono fun j h => List.mem_append_left _ h).trans (o2.mono fun j h => List.mem_append_right _ h)
def Tgs.len : Tgs → Nat
  | .nil => 0
  | .cons _ ts => ts.len + 1
theorem Tgs.asn_len : ∀ {ts : Tgs} {ds : List D} {ρ ρ' : Ro}, ts.asn ds ρ = some ρ' → ds.length = ts.len
  | .nil, [], _, _, _ => rfl
  | .nil, _ :: _, _, _, e => by unfold Tgs.asn at e; cases e
  | .cons t ts, [], _, _, e => by unfold Tgs.asn at e; cases e
  | .cons t ts, d :: ds, ρ, _, e => by
    unfold Tgs.asn at e
    cases e1 : t.asn d ρ with
    | none => rw [e1] at e; cases e
    | some ρ1 =>
      rw [e1] at e
      show ds.length + 1 = ts.len + 1
      rw [Tgs.asn_len e]
theorem pgd_tup {es : List Expr} {k : Nat} {ts : Tgs} (hc : X.calm = true) (h : PGs X es (gDs X.K ts)) (hn : (assignEach es X.env).length = ts.len) (hst : (assignEach es X.env).findIdx? (·.1) = none) : PG X (.Tuple es k pos) (gD X.K (.tup ts)) :=
  (pg_tup hc h hn hst).imp fun v σ H Q => by
    rintro ⟨d, ρ, ρ', M, F, r, s, e, q⟩
    cases d <;> (try (unfold Tg.asn at e; cases e; done))
    unfold Tg.asn at e
    unfold Rep at r
    obtain ⟨p, vs, rfl, s1, r1⟩ := r
    exact ⟨p, vs, rfl, s1, by rw [← r1.length]; exact Tgs.asn_len e, _, ρ, ρ', M, F, r1, s, e, fun σ' o' s' => q σ' (by unfold Tg.slots; exact o') s'⟩
/-! ### what is walked -/
structure DIt where
  items : List D
  keep : Mp → Prop
def ItOk (K : PySem.W.Frag) (J : It) (T : DIt) (H0 : Hp) : Prop := ∀ (H : Hp) (M : Mp), TupS K H0 H → RepM K H M → T.keep M → ∀ i : Nat,
  (i < T.items.length → J.go i H ∧ ∀ x H', J.yld i H x H' → ∃ d, T.items[i]? = some d ∧ TupS K H H' ∧ (∀ a o, H a = some o → H' a = some o) ∧ RepM K H' M ∧ Rep K H' d x) ∧ (T.items.length = i → J.stop i H)
abbrev WI := Ro → Mp → (DIt → Mp → Prop) → Prop
def iD (K : PySem.W.Frag) (w : WI) : TI := fun σ H R => ∃ ρ M F Q0, Stt K H σ ρ M F ∧ w ρ M Q0 ∧ ∀ T M' J H', Q0 T M' → TupS K H H' → Frm F H H' M' → RepM K H' M' → ItOk K J T H' → R J H'
theorem _root_.L2.PI.imp {X : Cx} {tg e : Expr} {t t' : TI} (h : PI X tg e t) (i : ∀ σ H Q, t' σ H Q → t σ H Q) : PI X tg e t' := ⟨fun pins s σ H Q I q => h.run pins s σ H Q I (i σ H Q q)⟩
theorem Frm.of_same {F : Addr → Prop} {H H' : Hp} {M : Mp} (f : FrOk F H M) (k : ∀ a o, H a = some o → H' a = some o) : Frm F H H' M := fun a h => by
  obtain ⟨⟨o, e⟩, n⟩ := f a h
  exact ⟨by rw [e, k a o e], n⟩
/-- a list or a tuple -/
def iSeq (K : PySem.W.Frag) (tl : TE) : TI := fun σ H R => tl σ H fun x H1 => ∃ a, x = .ref a ∧ (((∃ xs, SqL K H1 a xs) ∧ R (Itl K a) H1) ∨ ((∃ xs, SqT K H1 a xs) ∧ R (Itt K a) H1))
theorem pi_seq {tg l : Expr} {tl : TE} (hl : PE X l tl) : PI X tg l (iSeq X.K tl) := by
  refine ⟨fun pins s σ H R I h => ?_⟩
  refine thn (hl.run pins s σ H _ I h) fun v s1 ⟨x, H1, I1, r1, q1⟩ => ?_
  obtain ⟨a, e, q1⟩ := q1
  subst e
  cases r1
  rcases q1 with ⟨⟨xs, hq⟩, q⟩ | ⟨⟨xs, hq⟩, q⟩
  · obtain ⟨its, rv, p, hz⟩ := I1.list hq
    refine wpAny_pyIter_list p.isList ?_
    refine ⟨s1.heap.objs.size, [s1.heap.objs.size], _, _, H1, rfl, I1.kept (t' := s1.toks) fun b o e => Heap.get?_push_of_some _ e, turn_list a _, ⟨_, Heap.get?_push_size _ rfl, rfl, rfl⟩, fun b hb => ?_, q⟩
    have e : b = s1.heap.objs.size := by simpa using hb
    subst e
    exact I1.fpOk (Nat.le_refl _) (I1.hok.fresh (Nat.le_refl _))
  · obtain ⟨its, rv, p, hz⟩ := I1.tuple hq
    refine wpAny_pyIter_tuple (show s1.heap.IsTuple a its.toArray from p) ?_
    refine ⟨s1.heap.objs.size, [s1.heap.objs.size], _, _, H1, rfl, I1.kept (t' := s1.toks) fun b o e => Heap.get?_push_of_some _ e, turn_tuple a _, ⟨_, Heap.get?_push_size _ rfl, rfl, rfl⟩, fun b hb => ?_, q⟩
    have e : b = s1.heap.objs.size := by simpa using hb
    subst e
    exact I1.fpOk (Nat.le_refl _) (I1.hok.fresh (Nat.le_refl _))
/-- the walk of a list or tuple, as the data stand -/
def seqT (M : Mp) (d : D) (T : DIt) : Prop := (∃ ds, d = .tup ds ∧ T = ⟨ds, fun _ => True⟩) ∨ (∃ p ds, d = .ref p ∧ M p = some (.lst ds) ∧ T = ⟨ds, fun M => M p = some (.lst ds)⟩)
def wISeq (w : WE) : WI := fun ρ M Q => w ρ M fun d M1 => ∃ T, seqT M1 d T ∧ Q T M1
theorem itok_l {p : Addr} {ds : List D} {H0 : Hp} : ItOk K (Itl K p) ⟨ds, fun M => M p = some (.lst ds)⟩ H0 := fun H M t m k i => by
  obtain ⟨vs, e, r⟩ := m _ _ k
  have el := r.length
  refine ⟨fun hi => ⟨⟨vs, vs[i]'(by rw [← el]; exact hi), .of e, List.getElem?_eq_getElem _⟩, fun x H' hy => ?_⟩, fun hi => ⟨vs, .of e, by rw [← el]; exact Nat.le_of_eq hi⟩⟩
  obtain ⟨rfl, hy⟩ := hy
  obtain ⟨d, e1, e2⟩ := r.get' (hy vs (.of e))
  exact ⟨d, e1, .refl _, fun _ _ h => h, m, e2⟩
theorem itok_t {p : Addr} {ds : List D} {vs : List V} {H0 : Hp} (h0 : SqT K H0 p vs) (r0 : Reps K H0 ds vs) : ItOk K (Itt K p) ⟨ds, fun _ => True⟩ H0 := fun H M t m k i => by
  have e := t _ _ h0
  have r := r0.stay t
  have el := r.length
  refine ⟨fun hi => ⟨⟨vs, vs[i]'(by rw [← el]; exact hi), e, List.getElem?_eq_getElem _⟩, fun x H' hy => ?_⟩, fun hi => ⟨vs, e, by rw [← el]; exact Nat.le_of_eq hi⟩⟩
  obtain ⟨rfl, hy⟩ := hy
  obtain ⟨d, e1, e2⟩ := r.get' (hy vs e)
  exact ⟨d, e1, .refl _, fun _ _ h => h, m, e2⟩
theorem pid_seq {tg : Expr} (h : PE X a (tD X.K wa)) : PI X tg a (iD X.K (wISeq wa)) := (pi_seq h).imp fun σ H R => by
  rintro ⟨ρ, M, F, Q0, s, q, g⟩
  refine ⟨ρ, M, F, _, s, q, fun x M1 v H1 q1 t1 f1 r1 p1 => ?_⟩
  obtain ⟨T, hT, q1⟩ := q1
  rcases hT with ⟨ds, rfl, rfl⟩ | ⟨p, ds, rfl, e, rfl⟩
  · unfold Rep at p1
    obtain ⟨p, vs, rfl, s1, p2⟩ := p1
    exact ⟨p, rfl, .inr ⟨⟨vs, s1⟩, g _ M1 _ H1 q1 t1 f1 r1 (itok_t s1 p2)⟩⟩
  · cases p1
    obtain ⟨vs, e1, p2⟩ := r1 _ _ e
    exact ⟨p, rfl, .inl ⟨⟨vs, .of e1⟩, g _ M1 _ H1 q1 t1 f1 r1 itok_l⟩⟩
/-- range -/
def rngI (lo hi : Int) : List D := (List.range (hi - lo).toNat).map fun i => .int (lo + (i : Nat))
theorem itok_r {lo hi : Int} {H0 : Hp} : ItOk K (Itr lo (hi - lo).toNat) ⟨rngI lo hi, fun _ => True⟩ H0 := fun H M t m k i => by
  have el : (rngI lo hi).length = (hi - lo).toNat := by unfold rngI; rw [List.length_map, List.length_range]
  refine ⟨fun hi' => ⟨by rw [show DIt.items _ = rngI lo hi from rfl, el] at hi'; exact hi', fun x H' hy => ?_⟩, fun hi' => by rw [show DIt.items _ = rngI lo hi from rfl, el] at hi'; exact Nat.le_of_eq hi'⟩
  obtain ⟨rfl, rfl⟩ := hy
  rw [show DIt.items _ = rngI lo hi from rfl, el] at hi'
  refine ⟨.int (lo + (i : Nat)), ?_, .refl _, fun _ _ h => h, m, rfl⟩
  show (rngI lo hi)[i]? = _
  unfold rngI
  rw [List.getElem?_map, List.getElem?_range hi']
  rfl
def small62 (i : Int) : Prop := -(2 ^ 62) ≤ i ∧ i < 2 ^ 62
def wIR1 (w : WE) : WI := fun ρ M Q => w ρ M fun d M1 => ∃ i, d = .int i ∧ small62 i ∧ Q ⟨rngI 0 i, fun _ => True⟩ M1
def wIR2 (wa wb : WE) : WI := fun ρ M Q => wa ρ M fun d M1 => wb ρ M1 fun e M2 => ∃ i j, d = .int i ∧ e = .int j ∧ small62 i ∧ small62 j ∧ Q ⟨rngI i j, fun _ => True⟩ M2
theorem arg1 {w : WE} {ρ : Ro} {M : Mp} {P : D → Mp → Prop} (h : w ρ M P) : wCons w wNil ρ M (fun ds M1 => ∃ d, ds = [d] ∧ P d M1) := by
  show w ρ M (fun d M1 => ∃ d', [d] = [d'] ∧ P d' M1)
  have e : (fun d M1 => ∃ d', [d] = [d'] ∧ P d' M1) = P := by
    funext d M1
    apply propext
    constructor
    · rintro ⟨d', e, h⟩
      cases e
      exact h
    · exact fun h => ⟨d, rfl, h⟩
  rw [e]
  exact h
theorem arg2 {w u : WE} {ρ : Ro} {M : Mp} {P : D → D → Mp → Prop} (h : w ρ M fun d M1 => u ρ M1 fun e M2 => P d e M2) : wCons w (wCons u wNil) ρ M (fun ds M1 => ∃ d e, ds = [d, e] ∧ P d e M1) := by
  show w ρ M (fun d M1 => u ρ M1 fun e M2 => ∃ d' e', [d, e] = [d', e'] ∧ P d' e' M2)
  have q : (fun d M1 => u ρ M1 fun e M2 => ∃ d' e', [d, e] = [d', e'] ∧ P d' e' M2) = fun d M1 => u ρ M1 fun e M2 => P d e M2 := by
    funext d M1
    congr 1
    funext e M2
    apply propext
    constructor
    · rintro ⟨d', e', z, h⟩
      cases z
      exact h
    · exact fun h => ⟨d, e, rfl, h⟩
  rw [q]
  exact h
theorem pid_r1 {tg : Expr} {p : Pos} (h : PE X a (tD X.K wa)) (hg : Gl X "range") (hm : X.mg "range" = none) (hs : starEach [a] X.env = [(false, eval a X.env)]) : PI X tg (.Call (.Name "range" p) [a] [] pos) (iD X.K (wIR1 wa)) :=
  (pi_range1 hg hm (pda_cons h pda_nil hs) hs).imp fun σ H R => by
    rintro ⟨ρ, M, F, Q0, s, q, g⟩
    refine ⟨ρ, M, F, _, s, arg1 q, fun ds M1 vs H1 q1 t1 f1 r1 p1 => ?_⟩
    obtain ⟨d, rfl, i, rfl, s1, q1⟩ := q1
    obtain ⟨v, rfl, p1'⟩ := p1.one
    cases p1'
    have e : (i - 0).toNat = i.toNat := by rw [Int.sub_zero]
    refine ⟨i, rfl, s1.1, s1.2, g _ M1 _ H1 q1 t1 f1 r1 ?_⟩
    rw [← e]
    exact itok_r
theorem pid_r2 {tg : Expr} {p : Pos} (h : PE X a (tD X.K wa)) (h' : PE X b (tD X.K wb)) (hg : Gl X "range") (hm : X.mg "range" = none) (hs : starEach [a, b] X.env = [(false, eval a X.env), (false, eval b X.env)]) (hs2 : starEach [b] X.env = [(false, eval b X.env)]) : PI X tg (.Call (.Name "range" p) [a, b] [] pos) (iD X.K (wIR2 wa wb)) :=
  (pi_range2 hg hm (pda_cons h (pda_cons h' pda_nil hs2) (by rw [hs, hs2])) hs hs2).imp fun σ H R => by
    rintro ⟨ρ, M, F, Q0, s, q, g⟩
    refine ⟨ρ, M, F, _, s, arg2 q, fun ds M1 vs H1 q1 t1 f1 r1 p1 => ?_⟩
    obtain ⟨d, e, rfl, i, j, rfl, rfl, s1, s2, q1⟩ := q1
    obtain ⟨v, u, rfl, p1', p2'⟩ := p1.two
    cases p1'; cases p2'
    exact ⟨i, j, rfl, ⟨s1.1, s1.2, s2.1, s2.2⟩, g _ M1 _ H1 q1 t1 f1 r1 itok_r⟩
/-- zip of two lists, of two tuples -/
def zipI (xs ys : List D) : List D := List.zipWith (fun x y => .tup [x, y]) xs ys
def zipT (M : Mp) (d e : D) (T : DIt) : Prop := (∃ xs ys, d = .tup xs ∧ e = .tup ys ∧ T = ⟨zipI xs ys, fun _ => True⟩) ∨
  (∃ p q xs ys, d = .ref p ∧ e = .ref q ∧ M p = some (.lst xs) ∧ M q = some (.lst ys) ∧ T = ⟨zipI xs ys, fun M => M p = some (.lst xs) ∧ M q = some (.lst ys)⟩)
def wIZip (wa wb : WE) : WI := fun ρ M Q => wa ρ M fun d M1 => wb ρ M1 fun e M2 => ∃ T, zipT M2 d e T ∧ Q T M2
theorem zipI_len (xs ys : List D) : (zipI xs ys).length = min xs.length ys.length := by unfold zipI; rw [List.length_zipWith]
theorem zipI_get {xs ys : List D} {i : Nat} {x y : D} (h1 : xs[i]? = some x) (h2 : ys[i]? = some y) : (zipI xs ys)[i]? = some (.tup [x, y]) := by
  unfold zipI
  rw [List.getElem?_zipWith, h1, h2]
theorem yields {H H' : Hp} {M : Mp} {T : Addr} {v1 v2 : V} {d1 d2 : D} (m : RepM K H M) (hT : H T = none) (e : H' = upd H T (.tup [v1, v2])) (r1 : Rep K H d1 v1) (r2 : Rep K H d2 v2) :
    TupS K H H' ∧ (∀ a o, H a = some o → H' a = some o) ∧ RepM K H' M ∧ Rep K H' (.tup [d1, d2]) (.ref T) := by
  subst e
  refine ⟨.new hT, fun a o h => by rw [upd_ne (ne_of_none h hT)]; exact h, m.more hT, ?_⟩
  unfold Rep
  exact ⟨T, _, rfl, .of upd_same, .cons (r1.stay (.new hT)) (.cons (r2.stay (.new hT)) .nil)⟩
theorem itok_zl {p q : Addr} {xs ys : List D} {H0 : Hp} : ItOk K (Itz K p q) ⟨zipI xs ys, fun M => M p = some (.lst xs) ∧ M q = some (.lst ys)⟩ H0 := fun H M t m k i => by
  obtain ⟨vs, e, r⟩ := m _ _ k.1
  obtain ⟨us, e', r'⟩ := m _ _ k.2
  have el := r.length
  have el' := r'.length
  have ez : (zipI xs ys).length = min vs.length us.length := by rw [zipI_len, el, el']
  refine ⟨fun hi => ?_, fun hi => ⟨vs, us, .of e, .of e', ?_⟩⟩
  · have hi : i < min vs.length us.length := by rw [← ez]; exact hi
    have h1 : vs[i]? = some (vs[i]'(by omega)) := List.getElem?_eq_getElem _
    have h2 : us[i]? = some (us[i]'(by omega)) := List.getElem?_eq_getElem _
    refine ⟨⟨vs, us, _, _, .of e, .of e', h1, h2⟩, fun x H' hy => ?_⟩
    obtain ⟨T, v1, v2, rfl, hT, eH, g1, g2⟩ := hy
    obtain ⟨d1, a1, b1⟩ := r.get' (g1 vs (.of e))
    obtain ⟨d2, a2, b2⟩ := r'.get' (g2 us (.of e'))
    exact ⟨_, zipI_get a1 a2, yields m hT eH b1 b2⟩
  · have hi : min vs.length us.length ≤ i := by rw [← ez]; exact Nat.le_of_eq hi
    omega
theorem itok_zt {p q : Addr} {xs ys : List D} {vs us : List V} {H0 : Hp} (h0 : SqT K H0 p vs) (r0 : Reps K H0 xs vs) (h0' : SqT K H0 q us) (r0' : Reps K H0 ys us) : ItOk K (ItzT K p q) ⟨zipI xs ys, fun _ => True⟩ H0 := fun H M t m k i => by
  have e := t _ _ h0
  have r := r0.stay t
  have e' := t _ _ h0'
  have r' := r0'.stay t
  have el := r.length
  have el' := r'.length
  have ez : (zipI xs ys).length = min vs.length us.length := by rw [zipI_len, el, el']
  refine ⟨fun hi => ?_, fun hi => ⟨vs, us, e, e', ?_⟩⟩
  · have hi : i < min vs.length us.length := by rw [← ez]; exact hi
    have h1 : vs[i]? = some (vs[i]'(by omega)) := List.getElem?_eq_getElem _
    have h2 : us[i]? = some (us[i]'(by omega)) := List.getElem?_eq_getElem _
    refine ⟨⟨vs, us, _, _, e, e', h1, h2⟩, fun x H' hy => ?_⟩
    obtain ⟨T, v1, v2, rfl, hT, eH, g1, g2⟩ := hy
    obtain ⟨d1, a1, b1⟩ := r.get' (g1 vs e)
    obtain ⟨d2, a2, b2⟩ := r'.get' (g2 us e')
    exact ⟨_, zipI_get a1 a2, yields m hT eH b1 b2⟩
  · have hi : min vs.length us.length ≤ i := by rw [← ez]; exact Nat.le_of_eq hi
    omega
theorem pid_zip {elts : List Expr} {kk : Nat} {tpos p : Pos} (h : PE X a (tD X.K wa)) (h' : PE X b (tD X.K wb)) (hg : Gl X "zip") (hm : X.mg "zip" = none) (hs : starEach [a, b] X.env = (false, eval a X.env) :: starEach [b] X.env) (hs2 : starEach [b] X.env = [(false, eval b X.env)]) :
    PI X (.Tuple elts kk tpos) (.Call (.Name "zip" p) [a, b] [] pos) (iD X.K (wIZip wa wb)) :=
  (pi_zipA hg hm (pda_cons h (pda_cons h' pda_nil hs2) hs) hs (by rw [hs2]; rfl)).imp fun σ H R => by
    rintro ⟨ρ, M, F, Q0, s, q, g⟩
    refine ⟨ρ, M, F, _, s, arg2 q, fun ds M1 vs H1 q1 t1 f1 r1 p1 => ?_⟩
    obtain ⟨d, e, rfl, T, hT, q1⟩ := q1
    obtain ⟨v, u, rfl, p1', p2'⟩ := p1.two
    rcases hT with ⟨xs, ys, rfl, rfl, rfl⟩ | ⟨p, q, xs, ys, rfl, rfl, e1, e2, rfl⟩
    · unfold Rep at p1' p2'
      obtain ⟨p, vs, rfl, s1, p3⟩ := p1'
      obtain ⟨q, us, rfl, s2, p4⟩ := p2'
      exact ⟨p, q, vs, us, rfl, .inr ⟨s1, s2, g _ M1 _ H1 q1 t1 f1 r1 (itok_zt s1 p3 s2 p4)⟩⟩
    · cases p1'; cases p2'
      obtain ⟨vs, w1, _⟩ := r1 _ _ e1
      obtain ⟨us, w2, _⟩ := r1 _ _ e2
      exact ⟨p, q, vs, us, rfl, .inl ⟨.of w1, .of w2, g _ M1 _ H1 q1 t1 f1 r1 itok_zl⟩⟩
/-- the signs of a text -/
def strI (x : Str) : List D := x.cps.toList.map fun c => .str ⟨#[c]⟩
def wIStr (w : WE) : WI := fun ρ M Q => w ρ M fun d M1 => ∃ x, d = .str x ∧ Q ⟨strI x, fun _ => True⟩ M1
theorem itok_s {x : Str} {H0 : Hp} : ItOk K (Its x) ⟨strI x, fun _ => True⟩ H0 := fun H M t m k i => by
  have el : (strI x).length = x.cps.size := by unfold strI; rw [List.length_map, Array.length_toList]
  refine ⟨fun hi => ⟨by rw [show DIt.items _ = strI x from rfl, el] at hi; exact hi, fun v H' hy => ?_⟩, fun hi => by rw [show DIt.items _ = strI x from rfl, el] at hi; exact Nat.le_of_eq hi⟩
  obtain ⟨rfl, c, hc, rfl⟩ := hy
  refine ⟨.str ⟨#[c]⟩, ?_, .refl _, fun _ _ h => h, m, rfl⟩
  show (strI x)[i]? = _
  unfold strI
  rw [List.getElem?_map, Array.getElem?_toList, hc]
  rfl
theorem pid_str {tg : Expr} (h : PE X a (tD X.K wa)) : PI X tg a (iD X.K (wIStr wa)) := (pi_str h).imp fun σ H R => by
  rintro ⟨ρ, M, F, Q0, s, q, g⟩
  refine ⟨ρ, M, F, _, s, q, fun x M1 v H1 q1 t1 f1 r1 p1 => ?_⟩
  obtain ⟨x, rfl, q1⟩ := q1
  cases p1
  exact ⟨x, rfl, g _ M1 _ H1 q1 t1 f1 r1 itok_s⟩
end
end DL

set_option Elab.async false
set_option linter.all false
set_option maxRecDepth 100000
set_option maxHeartbeats 4000000
/-! DLe2: enumerate of a list or a tuple. -/
namespace DL
open PySem L2 RZ
open PyProof.Rows (Call_)
open AutoSeq1 (wpAny_loadPart')
theorem meets_enumT (l : Addr) (items : Array Value) (n : Nat) (dct : Option Addr) (sl : Array (Option Value)) :
    Meets (Builtin.«enumerate.__new__» ⟨[.type "enumerate", .ref l], []⟩) (fun _ R s => s.heap.get? l = some { cls := .type "tuple", dict := dct, data := .seq items n, slots := sl } ∧
      R (.ok (.ret (.ref (s.heap.push { cls := .type "tuple_iterator", data := .fields #[.ref l, .int 0 0] }).objs.size)))
        { s with heap := (s.heap.push { cls := .type "tuple_iterator", data := .fields #[.ref l, .int 0 0] }).push { cls := .type "enumerate", data := .fields #[.none, .bool false, .ref s.heap.objs.size, rawInt 0, .none, .none] } }) :=
  .of_wp fun prog w A R s h => by
    obtain ⟨hp, g, d, tk, os⟩ := s; obtain ⟨hl, h⟩ := h
    have hsub := sub_enumerate
    have hL : Heap.IsTuple (Shared.heap ⟨hp, g, d, tk, os⟩) l items := ⟨_, hl, rfl, n, rfl⟩
    wp_walk using wpAny_loadPart' hl
    refine wpAny_stack_any fun st => wpAny_pure ?_
    split
    · rename_i c _ _ _ _ _
      cases (c == Value.type "enumerate")
      · wp_walk using wpAny_loadPart' hl, wpAny_pyIter_tuple hL
        exact ⟨_, rfl, h⟩
      · wp_walk using wpAny_loadPart' hl, wpAny_pyIter_tuple hL
        exact ⟨_, rfl, h⟩
    · wp_walk using wpAny_loadPart' hl, wpAny_pyIter_tuple hL
      exact ⟨_, rfl, h⟩
section
variable {prog : Program} {w : World} {A : Around} {E : Value → Shared → Prop} {s : Shared}
theorem call_enumT {l : Addr} {items : Array Value} {Q : Value → Shared → Prop} (hL : s.heap.IsTuple l items)
    (h : ∀ h', IsEnum h' (s.heap.objs.size + 1) s.heap.objs.size 0 .none → h'.IsTupleIter s.heap.objs.size l 0 → h'.objs.size = s.heap.objs.size + 2 →
      (∀ b o, s.heap.get? b = some o → h'.get? b = some o) → Q (.ref (s.heap.objs.size + 1)) { s with heap := h' }) :
    wpAny (model prog w) A (call (.type "enumerate") [.ref l]) Q E s := by
  obtain ⟨⟨c, dct, dt, sl⟩, hl, hc, n, hd⟩ := hL
  replace hc : c = .type "tuple" := hc
  replace hd : dt = .seq items n := hd
  subst hc hd
  refine callType_new F.called_enumerate (by decide) (F.typeCall_enumerate_1 _) (F.newCall_enumerate_1 _) (fun obj => F.args_object_init_2 obj _) F.entry_enumerate_new
    (meets_enumT l items n dct sl) ⟨hl, ?_⟩
  have hz : (s.heap.push { cls := .type "tuple_iterator", data := .fields #[.ref l, .int 0 0] }).objs.size = s.heap.objs.size + 1 := Heap.size_push ..
  show _ ∧ _
  rw [hz]
  have he : IsEnum ((s.heap.push { cls := .type "tuple_iterator", data := .fields #[.ref l, .int 0 0] }).push
      { cls := .type "enumerate", data := .fields #[.none, .bool false, .ref s.heap.objs.size, rawInt 0, .none, .none] }) (s.heap.objs.size + 1) s.heap.objs.size 0 .none := by
    have := Heap.get?_push_size (s.heap.push { cls := .type "tuple_iterator", data := .fields #[.ref l, .int 0 0] })
      (o := { cls := .type "enumerate", data := .fields #[.none, .bool false, .ref s.heap.objs.size, rawInt 0, .none, .none] }) rfl
    rw [hz] at this; exact this
  refine ⟨⟨_, he, rfl⟩, h _ he ⟨_, Heap.get?_push_of_some _ (Heap.get?_push_size _ rfl), rfl, rfl⟩ (by rw [Heap.size_push, hz]) fun b o x => Heap.get?_push_of_some _ (Heap.get?_push_of_some _ x)⟩
end
theorem drawsT {prog : Program} {w : World} {A : Around} (hh : A.handled = none) (it l : Addr) (hne : l ≠ it) (items : Array Value) :
    Draws prog w A it [it, l] items.size (fun i v => items[i]? = some v) (fun i h => h.IsTupleIter it l i ∧ h.IsTuple l items) where
  live := fun _ _ st => let ⟨o, ho, _⟩ := st.1; ⟨o, ho⟩
  frame := fun _ _ _ st hk => ⟨let ⟨o, ho, r⟩ := st.1; ⟨o, hk it (by simp) o ho, r⟩, let ⟨o, ho, r⟩ := st.2; ⟨o, hk l (by simp) o ho, r⟩⟩
  item := fun i s Q E hi st hQ => by
    refine nextOf_tuple_item st.1 st.2 (x := items[i]) (by simp [hi]) fun h' hit' hs' => ?_
    exact hQ _ h' s.toks (by simp [hi]) ⟨hit', st.2.extBut hs'.extBut hne⟩ hs'
  done := fun s Q E st hE => nextOf_tuple_end hh st.1 st.2 (by simp) hE
def IteT (K : PySem.W.Frag) (a : Addr) : It :=
  ⟨fun i H => ∃ (xs : List V) (x : V), SqT K H a xs ∧ xs[i]? = some x, fun i H v H' => ∃ T x, v = .ref T ∧ H T = none ∧ H' = upd H T (.tup [.int (i : Nat), x]) ∧ ∀ xs, SqT K H a xs → xs[i]? = some x, fun i H => ∃ xs : List V, SqT K H a xs ∧ xs.length = i⟩
theorem turn_enumT {P : Program} {w : World} {K : PySem.W.Frag} {elts : List Expr} {kk : Nat} {tpos : Pos} (a e it : Addr) :
    Turn P w K (.Tuple elts kk tpos) (IteT K a) [e, it] e (fun i h => (∃ old, IsEnum h e it ((i : Nat) : Int) old) ∧ h.IsTupleIter it a i ∧ e ≠ it ∧ a ≠ it ∧ a ≠ e) where
  mem := by simp
  obj := fun i h st b hb => by
    obtain ⟨⟨old, he⟩, ⟨o, ho, hc, hd⟩, _⟩ := st
    have e' : b = e ∨ b = it := by simpa using hb
    rcases e' with z | z
    · rw [z]; exact ⟨_, he, fun v q => nomatch q⟩
    · rw [z]; exact ⟨o, ho, fun v q => by rw [hd] at q; cases q⟩
  keep := fun i h h' st k => let ⟨⟨old, he⟩, ⟨o, ho, r⟩, hne⟩ := st; ⟨⟨old, k e (by simp) _ he⟩, ⟨o, k it (by simp) o ho, r⟩, hne⟩
  item := by
    intro X hP hw hK hc i pins s σ H E I hf st hg
    subst hP hw hK
    obtain ⟨⟨old, he⟩, hit, hne, hai, hae⟩ := st
    obtain ⟨xs, x, hq, hx⟩ := hg
    obtain ⟨its, rv, p, hz⟩ := I.tuple hq
    obtain ⟨u, hu, ru⟩ := rv.get hx
    have hel : e < s.heap.objs.size := Heap.lt_size he
    have hil : it < s.heap.objs.size := by obtain ⟨_, q, _⟩ := hit; exact Heap.lt_size q
    have hlt : i < its.toArray.size := by
      obtain ⟨h1, _⟩ := List.getElem?_eq_some_iff.mp hu
      simpa using h1
    refine wpAny_pyNext_enum_itemD (drawsT (prog := X.prog) (w := X.w) (A := X.A.in1) (I.ok.hd hc) it a hai its.toArray) he ⟨hit, p⟩ hlt hne (by simp [hne, Ne.symm hae]) fun y h' tk hy ho hit' hT hsz hk => ?_
    obtain rfl : y = u := by
      have e1 : its.toArray[i]? = some u := by simpa using hu
      rw [hy] at e1
      exact Option.some.inj e1
    refine ⟨_, rfl, wpAny_letOwnedTupleGo_enum (s := { s with heap := h', toks := tk + 1 }) ho fun h'' he' sb => ?_⟩
    have hT2 : h''.get? s.heap.objs.size = some { cls := .type "tuple", data := .seq #[.int i tk, y] } := (sb.2 _ (Nat.ne_of_gt hel)).trans hT
    have new : ObjOk X.prog X.w (upd H s.heap.objs.size (.tup [.int (i : Nat), x])) h'' s.heap.objs.size (.tup [.int (i : Nat), x]) :=
      ⟨by show 2 ≤ sizeLine; decide, [.int i tk, y], .cons ⟨_, rfl⟩ (.cons ru .nil), ⟨_, hT2, rfl, _, rfl⟩⟩
    have I1 : Inv X pins σ (upd H s.heap.objs.size (.tup [.int (i : Nat), x])) { s with heap := h'', toks := tk + 1 } :=
      I.turnedNew (ch := [e, it]) (fun b ob hb q => (sb.2 b (fun z => hb (by simp [z]))).trans (hk b ob (fun z => hb (by simp [z])) (fun z => hb (by simp [z])) q)) hf (Nat.le_refl _) new
    refine ⟨.ref s.heap.objs.size, _, I1, rfl, ⟨_, x, rfl, I.hok.fresh (Nat.le_refl _), rfl, fun ys hy => by rw [I.tuple_inj hy hq]; exact hx⟩, ⟨⟨y, ?_⟩, ?_, hne, hai, hae⟩, fun b hb => ?_⟩
    · have e1 : ((i + 1 : Nat) : Int) = (i : Int) + 1 := by omega
      rw [e1]; exact he'
    · obtain ⟨o, ho2, r⟩ := hit'.1
      exact ⟨o, (sb.2 it (Ne.symm hne)).trans ho2, r⟩
    · have hb' : b < s.heap.objs.size := by
        have e' : b = e ∨ b = it := by simpa using hb
        rcases e' with z | z
        · rw [z]; exact hel
        · rw [z]; exact hil
      rw [upd_ne (Nat.ne_of_lt hb')]
      exact (hf b hb).1
  done := by
    intro X hP hw hK hc i pins s σ H E I hf st hg
    subst hP hw hK
    obtain ⟨⟨old, he⟩, hit, hne, hai, hae⟩ := st
    obtain ⟨xs, hq, hx⟩ := hg
    obtain ⟨its, rv, p, hz⟩ := I.tuple hq
    obtain ⟨f0, f1, f2, f3, f4, f5⟩ := hf it (by simp)
    have hl := rv.length
    have hi : i = its.toArray.size := by simp; omega
    refine wpAny_pyNext_enum_endD (drawsT (prog := X.prog) (w := X.w) (A := X.A.in1) (I.ok.hd hc) it a hai its.toArray) he (by rw [← hi]; exact ⟨hit, p⟩) fun h' eb => ⟨rfl, I.turned (t' := s.toks) (fun b o hb q => eb b o hb q) f0 f1 f3 f4 f5⟩
  self := fun A i s Q E st h => let ⟨⟨_, he⟩, _⟩ := st; wpAny_pyIter_enum he h
section
variable {K : PySem.W.Frag} {X : Cx} {a : Expr} {wa : WE} {pos : Pos}
def iEnumA (K : PySem.W.Frag) (ta : TA) : TI := fun σ H R => ta σ H fun vs H1 => ∃ a xs, vs = [.ref a] ∧ ((SqL K H1 a xs ∧ R (Ite K a) H1) ∨ (SqT K H1 a xs ∧ R (IteT K a) H1))
theorem pi_enumA {e : Expr} {ta : TA} {p tpos : Pos} {elts : List Expr} {kk : Nat} (hg : Gl X "enumerate") (hm : X.mg "enumerate" = none) (ha : PA X [e] ta) (hs : starEach [e] X.env = [(false, eval e X.env)]) :
    PI X (.Tuple elts kk tpos) (.Call (.Name "enumerate" p) [e] [] pos) (iEnumA X.K ta) := by
  refine ⟨fun pins s σ H R I h => ?_⟩
  refine Call_ (ld_blt I hg hm (show bootBuiltins "enumerate" = some (.type "enumerate") by decide +kernel) (PyProof.Rows.callWith_type1 (thn (ha.run pos pins s σ H _ I h) fun us s1 ⟨vs, H1, I1, r1, q1⟩ => ?_) hs rfl))
  obtain ⟨a, xs, ex, q1⟩ := q1
  subst ex
  cases r1 with
  | cons r rr =>
    cases rr
    cases r
    have hle : ∀ b, b = s1.heap.objs.size + 1 ∨ b = s1.heap.objs.size → s1.heap.objs.size ≤ b := fun b e' => by
      rcases e' with z | z
      · rw [z]; exact Nat.le_add_right _ _
      · rw [z]; exact Nat.le_refl _
    rcases q1 with ⟨hq, q⟩ | ⟨hq, q⟩
    · obtain ⟨its, rv, p', hz⟩ := I1.list hq
      refine call_enumerate_list p'.isList fun h' he hit hsz hk => wpAny_pyIter_enum he ?_
      have I2 : Inv X pins σ H1 { s1 with heap := h' } := I1.kept (t' := s1.toks) hk
      refine ⟨s1.heap.objs.size + 1, [s1.heap.objs.size + 1, s1.heap.objs.size], _, _, H1, rfl, I2, turn_enum a (s1.heap.objs.size + 1) s1.heap.objs.size, ⟨⟨.none, he⟩, hit, Nat.succ_ne_self _⟩, fun b hb => ?_, q⟩
      exact I1.fpOk (hle b (by simpa using hb)) (I1.hok.fresh (hle b (by simpa using hb)))
    · obtain ⟨its, rv, p', hz⟩ := I1.tuple hq
      have hal : a < s1.heap.objs.size := by obtain ⟨o, ho, _⟩ := p'; exact Heap.lt_size ho
      refine call_enumT (show s1.heap.IsTuple a its.toArray from p') fun h' he hit hsz hk => wpAny_pyIter_enum he ?_
      have I2 : Inv X pins σ H1 { s1 with heap := h' } := I1.kept (t' := s1.toks) hk
      refine ⟨s1.heap.objs.size + 1, [s1.heap.objs.size + 1, s1.heap.objs.size], _, _, H1, rfl, I2, turn_enumT a (s1.heap.objs.size + 1) s1.heap.objs.size, ⟨⟨.none, he⟩, hit, Nat.succ_ne_self _, Nat.ne_of_lt hal, Nat.ne_of_lt (Nat.lt_succ_of_lt hal)⟩, fun b hb => ?_, q⟩
      exact I1.fpOk (hle b (by simpa using hb)) (I1.hok.fresh (hle b (by simpa using hb)))
/-- the things with their places -/
def enI : Nat → List D → List D
  | _, [] => []
  | n, d :: ds => .tup [.int (n : Nat), d] :: enI (n + 1) ds
theorem enI_len : ∀ (n : Nat) (ds : List D), (enI n ds).length = ds.length
  | _, [] => rfl
  | n, d :: ds => by unfold enI; rw [List.length_cons, List.length_cons, enI_len]
theorem enI_get : ∀ (n : Nat) (ds : List D) (i : Nat) (d : D), ds[i]? = some d → (enI n ds)[i]? = some (.tup [.int ((n + i : Nat) : Int), d])
  | _, [], _, _, h => by simp at h
  | n, e :: ds, 0, d, h => by
    simp at h; subst h
    unfold enI
    simp
  | n, e :: ds, i + 1, d, h => by
    unfold enI
    rw [List.getElem?_cons_succ, enI_get (n + 1) ds i d (by simpa using h)]
    congr 4
    omega
def enT (M : Mp) (d : D) (T : DIt) : Prop := (∃ ds, d = .tup ds ∧ T = ⟨enI 0 ds, fun _ => True⟩) ∨ (∃ p ds, d = .ref p ∧ M p = some (.lst ds) ∧ T = ⟨enI 0 ds, fun M => M p = some (.lst ds)⟩)
def wIEn (w : WE) : WI := fun ρ M Q => w ρ M fun d M1 => ∃ T, enT M1 d T ∧ Q T M1
theorem itok_el {p : Addr} {ds : List D} {H0 : Hp} : ItOk K (Ite K p) ⟨enI 0 ds, fun M => M p = some (.lst ds)⟩ H0 := fun H M t m k i => by
  obtain ⟨vs, e, r⟩ := m _ _ k
  have el := r.length
  have ez : (enI 0 ds).length = vs.length := by rw [enI_len, el]
  refine ⟨fun hi => ?_, fun hi => ⟨vs, .of e, by rw [← ez]; exact Nat.le_of_eq hi⟩⟩
  have hi : i < vs.length := by rw [← ez]; exact hi
  refine ⟨⟨vs, vs[i], .of e, List.getElem?_eq_getElem _⟩, fun x H' hy => ?_⟩
  obtain ⟨T, v, rfl, hT, eH, g1⟩ := hy
  obtain ⟨d, a1, b1⟩ := r.get' (g1 vs (.of e))
  exact ⟨_, enI_get 0 ds i d a1, yields m hT eH (by unfold Rep; simp) b1⟩
theorem itok_et {p : Addr} {ds : List D} {vs : List V} {H0 : Hp} (h0 : SqT K H0 p vs) (r0 : Reps K H0 ds vs) : ItOk K (IteT K p) ⟨enI 0 ds, fun _ => True⟩ H0 := fun H M t m k i => by
  have e := t _ _ h0
  have r := r0.stay t
  have el := r.length
  have ez : (enI 0 ds).length = vs.length := by rw [enI_len, el]
  refine ⟨fun hi => ?_, fun hi => ?_⟩
  · have hi : i < vs.length := by rw [← ez]; exact hi
    refine ⟨⟨vs, vs[i], e, List.getElem?_eq_getElem _⟩, fun x H' hy => ?_⟩
    obtain ⟨T, v, rfl, hT, eH, g1⟩ := hy
    obtain ⟨d, a1, b1⟩ := r.get' (g1 vs e)
    exact ⟨_, enI_get 0 ds i d a1, yields m hT eH (by unfold Rep; simp) b1⟩
  · exact ⟨vs, e, by rw [← ez]; exact hi⟩
theorem pid_en {elts : List Expr} {kk : Nat} {tpos p : Pos} (h : PE X a (tD X.K wa)) (hg : Gl X "enumerate") (hm : X.mg "enumerate" = none) (hs : starEach [a] X.env = [(false, eval a X.env)]) :
    PI X (.Tuple elts kk tpos) (.Call (.Name "enumerate" p) [a] [] pos) (iD X.K (wIEn wa)) := (pi_enumA hg hm (pda_cons h pda_nil hs) hs).imp fun σ H R => by
  rintro ⟨ρ, M, F, Q0, s, q, g⟩
  refine ⟨ρ, M, F, _, s, arg1 q, fun ds M1 vs H1 q1 t1 f1 r1 p1 => ?_⟩
  obtain ⟨d, rfl, T, hT, q1⟩ := q1
  obtain ⟨v, rfl, p1'⟩ := p1.one
  rcases hT with ⟨ds, rfl, rfl⟩ | ⟨p, ds, rfl, e, rfl⟩
  · unfold Rep at p1'
    obtain ⟨p, vs, rfl, s1, p2⟩ := p1'
    exact ⟨p, vs, rfl, .inr ⟨s1, g _ M1 _ H1 q1 t1 f1 r1 (itok_et s1 p2)⟩⟩
  · cases p1'
    obtain ⟨vs, e1, p2⟩ := r1 _ _ e
    exact ⟨p, vs, rfl, .inl ⟨.of e1, g _ M1 _ H1 q1 t1 f1 r1 itok_el⟩⟩
end
end DL

set_option Elab.async false
set_option linter.all false
set_option maxRecDepth 100000
set_option maxHeartbeats 4000000
/-! DLf: comprehensions, statements. -/
namespace DL
open PySem L2
variable {K : PySem.W.Frag}
/-! ### list comprehensions -/
def wipeD (ρ : Ro) : List Nat → Ro
  | [] => ρ
  | v :: vs => (wipeD ρ vs).set v none
theorem set_none {K : PySem.W.Frag} {H : Hp} {σ : St} {ρ : Ro} (h : RepS K H σ ρ) (v : Nat) : RepS K H (σ.set v none) (ρ.set v none) := by
  refine ⟨by rw [List.length_set, List.length_set]; exact h.1, fun i d e => ?_⟩
  by_cases hi : v = i
  · subst hi
    by_cases hl : v < ρ.length
    · rw [List.getElem?_set_self hl] at e; cases e
    · rw [List.getElem?_eq_none (by rw [List.length_set]; omega)] at e; cases e
  · rw [List.getElem?_set_ne hi] at e ⊢
    exact h.2 i d e
theorem RepS.wipe {H : Hp} {σ : St} {ρ : Ro} (h : RepS K H σ ρ) : ∀ vs : List Nat, RepS K H (L2.wipe σ vs) (wipeD ρ vs)
  | [] => h
  | v :: vs => by unfold L2.wipe wipeD; exact set_none (h.wipe vs) v
theorem wipe_get {σ : St} {vs : List Nat} {j : Nat} : (L2.wipe σ vs)[j]? = if j ∈ vs then (if j < σ.length then some none else none) else σ[j]? := by
  induction vs with
  | nil => unfold L2.wipe; simp
  | cons v vs ih =>
    unfold L2.wipe
    by_cases hv : v = j
    · subst hv
      by_cases hl : v < σ.length
      · rw [List.getElem?_set_self (by rw [wipe_length]; exact hl)]; simp [hl]
      · rw [List.getElem?_eq_none (by rw [List.length_set, wipe_length]; omega)]; simp [hl]
    · rw [List.getElem?_set_ne hv, ih]
      by_cases hm : j ∈ vs
      · simp [hm]
      · have h2 : j ∉ v :: vs := fun h => (List.mem_cons.mp h).elim (fun e => hv e.symm) hm
        rw [if_neg hm, if_neg h2]
theorem wipe_off {σ σ2 : St} {vs : List Nat} (h : Off vs (L2.wipe σ vs) σ2) : L2.wipe σ2 vs = L2.wipe σ vs := by
  apply List.ext_getElem?
  intro j
  have hl : σ2.length = σ.length := by rw [h.1, wipe_length]
  rw [wipe_get, wipe_get, hl]
  by_cases hm : j ∈ vs
  · rw [if_pos hm, if_pos hm]
  · rw [if_neg hm, if_neg hm, h.2 j hm, wipe_get, if_neg hm]
def lcGo (T : DIt) (g : Tg) (wt : WT) (we : WE) (ρ : Ro) (fin : List D → Mp → Prop) : List D → List D → Mp → Prop
  | [], acc, M => T.keep M ∧ fin acc M
  | x :: xs, acc, M => T.keep M ∧ ∃ ρ1, g.asn x ρ = some ρ1 ∧ wt ρ1 M fun b M1 => if b = true then we ρ1 M1 fun d M2 => lcGo T g wt we ρ fin xs (acc ++ [d]) M2 else lcGo T g wt we ρ fin xs acc M1
def wYes : WT := fun _ M Q => Q true M
def wLc (wi : WI) (g : Tg) (wt : WT) (we : WE) (vs : List Nat) : WE := fun ρ M Q => wi ρ M fun T M1 => T.items.length ≤ sizeLine ∧ lcGo T g wt we (wipeD ρ vs) (fun acc M2 => ∀ p, M2 p = none → Q (.ref p) (up M2 p (.lst acc))) T.items [] M1
theorem RepM.off {H : Hp} {M : Mp} (r : RepM K H M) {p : Addr} {u : HO} {ys : List V} (h : M p = Option.none) (hp : H p = Option.some (.lst ys)) : RepM K (upd H p u) M := fun a q e => by
  have ha : a ≠ p := fun z => by subst z; rw [h] at e; cases e
  exact (r a q e).stay (.lst hp) (upd_ne ha)
theorem lc_of {wi : WI} {g : Tg} {wt : WT} {we : WE} {vs : List Nat} (hg : ∀ j ∈ g.slots, j ∈ vs) {σ : St} {H : Hp} {Q : VK} (h : tD K (wLc wi g wt we vs) σ H Q) : tLc (iD K wi) (gD K g) (tDT K wt) (tD K we) vs σ H Q := by
  obtain ⟨ρ, M, F, Q0, s, q, gg⟩ := h
  refine ⟨ρ, M, F, _, s, q, fun T M1 J H1 q1 t1 f1 r1 it => ?_⟩
  obtain ⟨hlen, q1⟩ := q1
  intro D hD
  have fr1 := s.fr.next f1
  have nF : ∀ a, F a → a ≠ D := fun a ha z => by obtain ⟨⟨o, e⟩, _⟩ := fr1 a ha; rw [z, hD] at e; cases e
  generalize hfin : (fun acc M2 => ∀ p, M2 p = none → Q0 (.ref p) (up M2 p (.lst acc))) = fin at q1
  refine ⟨fun i m H' => m = T.items.length - i ∧ i ≤ T.items.length ∧ ∃ acc vacc M', H' D = some (.lst vacc) ∧ Reps K H' acc vacc ∧ acc.length ≤ i ∧ RepM K H' M' ∧ FrOk (fun a => F a ∨ a = D) H' M' ∧ TupS K H H' ∧ Frm F H H' M' ∧ TupS K H1 H' ∧ lcGo T g wt we (wipeD ρ vs) fin (T.items.drop i) acc M', ⟨T.items.length, rfl, Nat.zero_le _, [], [], M1, upd_same, .nil, Nat.zero_le _, r1.more hD, fun a ha => ?_, t1.trans (.new hD), f1.trans (fr1.more hD), .new hD, q1⟩, ?_⟩
  · rcases ha with ha | rfl
    · exact ⟨by rw [upd_ne (nF a ha)]; exact (fr1 a ha).1, (fr1 a ha).2⟩
    · exact ⟨⟨_, upd_same⟩, r1.none hD⟩
  · rintro i m H2 ⟨rfl, hi, acc, vacc, M2, eD, ra, la, r2, fr2, t2, f2, tt2, q2⟩
    by_cases hlt : i < T.items.length
    · rw [List.drop_eq_getElem_cons hlt] at q2
      unfold lcGo at q2
      obtain ⟨hk, ρ1, ea, q2⟩ := q2
      obtain ⟨go, yl⟩ := (it H2 M2 tt2 r2 hk i).1 hlt
      refine .inr ⟨go, fun H' => ∃ acc vacc M', H' D = some (.lst vacc) ∧ Reps K H' acc vacc ∧ acc.length ≤ i + 1 ∧ RepM K H' M' ∧ FrOk (fun a => F a ∨ a = D) H' M' ∧ TupS K H H' ∧ Frm F H H' M' ∧ TupS K H1 H' ∧ lcGo T g wt we (wipeD ρ vs) fin (T.items.drop (i + 1)) acc M', fun H' ⟨acc, vacc, M', h1, h2, h3, h4, h5, h6, h7, h8, h9⟩ => ⟨T.items.length - (i + 1), by omega, rfl, hlt, acc, vacc, M', h1, h2, h3, h4, h5, h6, h7, h8, h9⟩, fun x H3 hy => ?_⟩
      obtain ⟨d, ed, t3, k3, r3, p3⟩ := yl x H3 hy
      rw [List.getElem?_eq_getElem hlt] at ed
      cases ed
      have f3 : Frm (fun a => F a ∨ a = D) H2 H3 M2 := .of_same fr2 k3
      have fr3 := fr2.next f3
      have s3 : Stt K H3 (L2.wipe σ vs) (wipeD ρ vs) M2 (fun a => F a ∨ a = D) := by
        refine ⟨?_, r3, fr3⟩
        have e := s.rs.wipe vs
        exact ⟨e.1, fun i d h => let ⟨v, e1, e2⟩ := e.2 i d h; ⟨v, e1, e2.stay (t2.trans t3)⟩⟩
      refine ⟨_, wipeD ρ vs, ρ1, M2, _, p3, s3, ea, fun σ2 o2 s2 => ⟨wipe_off (o2.mono hg), ρ1, M2, _, _, s2, q2, fun b M4 H4 q4 t4 f4 r4 => ?_⟩⟩
      have e4 : H4 D = some (.lst vacc) := by rw [(f4 D (.inr rfl)).1, k3 D _ eD]
      have n4 : M4 D = none := (f4 D (.inr rfl)).2
      have F4 : Frm F H H4 M4 := f2.trans (Frm.trans (M1 := M2) (fun a ha => f3 a (.inl ha)) fun a ha => f4 a (.inl ha))
      cases b with
      | false =>
        rw [if_neg Bool.false_ne_true] at q4
        show if false = true then _ else _
        rw [if_neg Bool.false_ne_true]
        exact ⟨acc, vacc, M4, e4, ra.stay (t3.trans t4), by omega, r4, fr3.next f4, (t2.trans t3).trans t4, F4, (tt2.trans t3).trans t4, q4⟩
      | true =>
        rw [if_pos rfl] at q4
        show if true = true then _ else _
        rw [if_pos rfl]
        refine ⟨ρ1, M4, _, _, s2.next t4 f4 r4, q4, fun d M5 y H5 q5 t5 f5 r5 p5 => ?_⟩
        have e5 : H5 D = some (.lst vacc) := by rw [(f5 D (.inr rfl)).1, e4]
        have n5 : M5 D = none := (f5 D (.inr rfl)).2
        have tl : TupS K H5 (upd H5 D (.lst (vacc ++ [y]))) := .lst e5
        refine ⟨vacc, e5, by rw [← ra.length]; omega, acc ++ [d], vacc ++ [y], M5, upd_same, ((ra.stay (t3.trans (t4.trans t5))).snoc p5).stay tl, by simp; omega, r5.off n5 e5, fun a ha => ?_, ((t2.trans t3).trans (t4.trans t5)).trans tl, fun a ha => ?_, ((tt2.trans t3).trans (t4.trans t5)).trans tl, q5⟩
        · rcases ha with ha | rfl
          · have := ((fr3.next f4).next f5) a (.inl ha)
            exact ⟨by rw [upd_ne (nF a ha)]; exact this.1, this.2⟩
          · exact ⟨⟨_, upd_same⟩, n5⟩
        · have e := (F4.trans fun a ha => f5 a (.inl ha)) a ha
          exact ⟨by rw [upd_ne (nF a ha)]; exact e.1, e.2⟩
    · have e : i = T.items.length := by omega
      subst e
      rw [List.drop_length] at q2
      unfold lcGo at q2
      obtain ⟨hk, q2⟩ := q2
      refine .inl ⟨(it H2 M2 tt2 r2 hk _).2 rfl, ?_⟩
      subst hfin
      have n2 : M2 D = none := (fr2 D (.inr rfl)).2
      refine gg _ _ _ H2 (q2 D n2) t2 (fun a ha => ⟨(f2 a ha).1, by rw [up_ne (nF a ha)]; exact (f2 a ha).2⟩) (fun a o ea => ?_) rfl
      by_cases ha : a = D
      · subst ha; rw [up_same] at ea; cases ea; exact ⟨vacc, eD, ra⟩
      · rw [up_ne ha] at ea; exact r2 a o ea
section
variable {X : Cx} {a b c : Expr} {wa wb wc : WE} {pos : Pos}
theorem pd_lc {elt tg iter : Expr} {ifs : List Expr} {scope : Scope} {own : List (Str × Nat)} {wi : WI} {g : Tg} {wt : WT} {we : WE} (hc : X.calm = true) (hN : X.N.Nodup) (hi : PI X tg iter (iD X.K wi)) (ok : BlkOk X.N X.env.scope scope own)
    (hg : ∀ (s : Shared) (H : Hp) (C : Addr) (cl : List (Str × Addr)) (fp : List Addr), PG (X.blk s H scope (compEnvC scope cl C X.env) fp) tg (gD X.K g)) (ht : ∀ (s : Shared) (H : Hp) (C : Addr) (cl : List (Str × Addr)) (fp : List Addr), PTs (X.blk s H scope (compEnvC scope cl C X.env) fp) ifs (tDT X.K wt))
    (he : ∀ (s : Shared) (H : Hp) (C : Addr) (cl : List (Str × Addr)) (fp : List Addr), PE (X.blk s H scope (compEnvC scope cl C X.env) fp) elt (tD X.K we)) (hs : ∀ x, foldedSetIterable iter X.env x = pure x) (hgs : ∀ j ∈ g.slots, j ∈ own.map (·.2)) :
    PE X (.ListComp elt [⟨tg, iter, ifs, 0⟩] scope pos) (tD X.K (wLc wi g wt we (own.map (·.2)))) := (pe_lc hc hN hi ok hg ht he hs).imp fun _ _ _ h => lc_of hgs h
/-! ### statements -/
end
structure DEnds where
  nx : Ro → Mp → Prop
  rt : D → Mp → Prop
  bk : Ro → Mp → Prop
  ct : Ro → Mp → Prop
abbrev WS := DEnds → Ro → Mp → Prop
structure GoS (K : PySem.W.Frag) (F : Addr → Prop) (H : Hp) (D0 : DEnds) (D : Ends) : Prop where
  nx : ∀ ρ' M' σ' H', D0.nx ρ' M' → TupS K H H' → Frm F H H' M' → Stt K H' σ' ρ' M' F → D.nx σ' H'
  rt : ∀ d M' v H', D0.rt d M' → TupS K H H' → Frm F H H' M' → RepM K H' M' → Rep K H' d v → D.rt v H'
  bk : ∀ ρ' M' σ' H', D0.bk ρ' M' → TupS K H H' → Frm F H H' M' → Stt K H' σ' ρ' M' F → D.bk σ' H'
  ct : ∀ ρ' M' σ' H', D0.ct ρ' M' → TupS K H H' → Frm F H H' M' → Stt K H' σ' ρ' M' F → D.ct σ' H'
theorem GoS.from {F : Addr → Prop} {H H1 : Hp} {M1 : Mp} {D0 : DEnds} {D : Ends} (g : GoS K F H D0 D) (t : TupS K H H1) (f : Frm F H H1 M1) : GoS K F H1 D0 D :=
  ⟨fun ρ' M' σ' H' q t' f' s => g.nx ρ' M' σ' H' q (t.trans t') (f.trans f') s, fun d M' v H' q t' f' r p => g.rt d M' v H' q (t.trans t') (f.trans f') r p,
   fun ρ' M' σ' H' q t' f' s => g.bk ρ' M' σ' H' q (t.trans t') (f.trans f') s, fun ρ' M' σ' H' q t' f' s => g.ct ρ' M' σ' H' q (t.trans t') (f.trans f') s⟩
def tDS (K : PySem.W.Frag) (w : WS) : TS := fun D σ H => ∃ ρ M F D0, Stt K H σ ρ M F ∧ w D0 ρ M ∧ GoS K F H D0 D
def wNext : WS := fun D0 ρ M => D0.nx ρ M
def wSeq (w u : WS) : WS := fun D0 ρ M => w { D0 with nx := fun ρ' M' => u D0 ρ' M' } ρ M
section
variable {X : Cx} {a b c : Expr} {wa wb wc : WE} {pos : Pos} {st : Stmt} {rest sts sts' : List Stmt} {w u : WS}
theorem psd_nil : PSs X [] (tDS X.K wNext) := pss_nil.imp fun D σ H => by
  rintro ⟨ρ, M, F, D0, s, q, g⟩
  exact g.nx ρ M σ H q (.refl _) s.fr.frm s
theorem psd_cons (h1 : PS X st (tDS X.K w)) (h2 : PSs X rest (tDS X.K u)) : PSs X (st :: rest) (tDS X.K (wSeq w u)) := (pss_cons h1 h2).imp fun D σ H => by
  rintro ⟨ρ, M, F, D0, s, q, g⟩
  exact ⟨ρ, M, F, _, s, q, ⟨fun ρ' M' σ' H' q' t' f' s' => ⟨ρ', M', F, D0, s', q', g.from t' f'⟩, g.rt, g.bk, g.ct⟩⟩
def wNever : WS := fun _ _ _ => False
theorem psd_never : PS X st (tDS X.K wNever) := ps_never.imp fun D σ H => by
  rintro ⟨ρ, M, F, D0, s, q, g⟩
  exact q
theorem psd_pass : PS X (.Pass pos) (tDS X.K wNext) := ps_pass.imp fun D σ H => by
  rintro ⟨ρ, M, F, D0, s, q, g⟩
  exact g.nx ρ M σ H q (.refl _) s.fr.frm s
def wCont : WS := fun D0 ρ M => D0.ct ρ M
theorem psd_cont : PS X (.Continue pos) (tDS X.K wCont) := ps_continue.imp fun D σ H => by
  rintro ⟨ρ, M, F, D0, s, q, g⟩
  exact g.ct ρ M σ H q (.refl _) s.fr.frm s
def wDrop (we : WE) : WS := fun D0 ρ M => we ρ M fun _ M1 => D0.nx ρ M1
theorem psd_expr (he : PE X a (tD X.K wa)) (hs : swapsWith a none pos.line X.env = pure false) : PS X (.Expr a pos) (tDS X.K (wDrop wa)) := (ps_expr he hs).imp fun D σ H => by
  rintro ⟨ρ, M, F, D0, s, q, g⟩
  exact ⟨ρ, M, F, _, s, q, fun d M1 v H1 q1 t1 f1 r1 p1 => g.nx ρ M1 σ H1 q1 t1 f1 (s.next t1 f1 r1)⟩
def wRet (we : WE) : WS := fun D0 ρ M => we ρ M D0.rt
theorem psd_ret (he : PE X a (tD X.K wa)) : PS X (.Return (some a) pos) (tDS X.K (wRet wa)) := (ps_ret he).imp fun D σ H => by
  rintro ⟨ρ, M, F, D0, s, q, g⟩
  exact ⟨ρ, M, F, _, s, q, fun d M1 v H1 q1 t1 f1 r1 p1 => g.rt d M1 v H1 q1 t1 f1 r1 p1⟩
def wRetN : WS := fun D0 _ M => D0.rt .non M
theorem psd_retN : PS X (.Return none pos) (tDS X.K wRetN) := ps_retN.imp fun D σ H => by
  rintro ⟨ρ, M, F, D0, s, q, g⟩
  exact g.rt .non M .non H q (.refl _) s.fr.frm s.rm rfl
def wIfS (t : WT) (w u : WS) : WS := fun D0 ρ M => t ρ M fun b M1 => if b = true then w D0 ρ M1 else u D0 ρ M1
theorem psd_if {wt : WT} (hc : PT X c (tDT X.K wt)) (ha : PSs X sts (tDS X.K w)) (hb : PSs X sts' (tDS X.K u)) : PS X (.If c sts sts' pos) (tDS X.K (wIfS wt w u)) := (ps_if hc ha hb).imp fun D σ H => by
  rintro ⟨ρ, M, F, D0, s, q, g⟩
  refine ⟨ρ, M, F, _, s, q, fun b M1 H1 q1 t1 f1 r1 => ?_⟩
  cases b with
  | true => rw [if_pos rfl] at q1 ⊢; exact ⟨ρ, M1, F, D0, s.next t1 f1 r1, q1, g.from t1 f1⟩
  | false => rw [if_neg Bool.false_ne_true] at q1 ⊢; exact ⟨ρ, M1, F, D0, s.next t1 f1 r1, q1, g.from t1 f1⟩
def wAsg (we : WE) (g : Tg) : WS := fun D0 ρ M => we ρ M fun d M1 => ∃ ρ', g.asn d ρ = some ρ' ∧ D0.nx ρ' M1
theorem asg_of {gt : Tg} {D : Ends} {σ : St} {H : Hp} (h : tDS K (wAsg wa gt) D σ H) : tAsg (tD K wa) (gD K gt) D σ H := by
  obtain ⟨ρ, M, F, D0, s, q, g⟩ := h
  refine ⟨ρ, M, F, _, s, q, fun d M1 v H1 q1 t1 f1 r1 p1 => ?_⟩
  obtain ⟨ρ', e, q1⟩ := q1
  exact ⟨d, ρ, ρ', M1, F, p1, s.next t1 f1 r1, e, fun σ' _ s' => g.nx ρ' M1 σ' H1 q1 t1 f1 s'⟩
theorem psd_asg {tg : Expr} {gt : Tg} (he : PE X a (tD X.K wa)) (hg : PG X tg (gD X.K gt)) (hs : swapsWithSole [tg] a pos.line X.env = pure false) (hw : swappedStores [tg] a X.env = pure none) (h1 : (assignEach [tg] X.env).map (·.2) = [assign tg X.env]) :
    PS X (.Assign [tg] a pos) (tDS X.K (wAsg wa gt)) := (ps_asg he hg hs hw h1).imp fun _ _ _ h => asg_of h
/-- name = [..] on one line -/
theorem psd_setLc {i : Nat} {y : Str} {py spos : Pos} {elt tg iter : Expr} {ifs : List Expr} {scope : Scope} {own : List (Str × Nat)} {wi : WI} {g : Tg} {wt : WT} {we : WE} (hc : X.calm = true) (hN : X.N.Nodup) (hy : X.N[i]? = some y) (hyl : X.env.scope.names.lookup y = some .local)
    (hsw : swapsWith (.ListComp elt [⟨tg, iter, ifs, 0⟩] scope pos) (some (.Name y py)) spos.line X.env = pure true) (hi : PI X tg iter (iD X.K wi)) (ok : BlkOk X.N X.env.scope scope own)
    (hg : ∀ (s : Shared) (H : Hp) (C : Addr) (cl : List (Str × Addr)) (fp : List Addr), PG (X.blk s H scope (compEnvC scope cl C X.env) fp) tg (gD X.K g)) (ht : ∀ (s : Shared) (H : Hp) (C : Addr) (cl : List (Str × Addr)) (fp : List Addr), PTs (X.blk s H scope (compEnvC scope cl C X.env) fp) ifs (tDT X.K wt))
    (he : ∀ (s : Shared) (H : Hp) (C : Addr) (cl : List (Str × Addr)) (fp : List Addr), PE (X.blk s H scope (compEnvC scope cl C X.env) fp) elt (tD X.K we)) (hs : ∀ x, foldedSetIterable iter X.env x = pure x) (hgs : ∀ j ∈ g.slots, j ∈ own.map (·.2)) :
    PS X (.Assign [.Name y py] (.ListComp elt [⟨tg, iter, ifs, 0⟩] scope pos) spos) (tDS X.K (wAsg (wLc wi g wt we (own.map (·.2))) (.name i))) :=
  (ps_setLc hc hN hy hyl hsw hi ok hg ht he hs).imp fun D σ H => by
    rintro ⟨ρ, M, F, D0, s, q, gg⟩
    refine lc_of hgs ⟨ρ, M, F, _, s, q, fun d M1 v H1 q1 t1 f1 r1 p1 => ?_⟩
    obtain ⟨ρ', e, q1⟩ := q1
    unfold Tg.asn at e
    cases e
    exact gg.nx _ M1 _ H1 q1 t1 f1 ((s.next t1 f1 r1).set p1 i)
/-! ### loops -/
def forGo (T : DIt) (g : Tg) (wb : WS) (D0 : DEnds) : List D → Ro → Mp → Prop
  | [], ρ, M => T.keep M ∧ D0.nx ρ M
  | x :: xs, ρ, M => T.keep M ∧ ∃ ρ1, g.asn x ρ = some ρ1 ∧ wb { D0 with nx := forGo T g wb D0 xs, ct := forGo T g wb D0 xs, bk := D0.nx } ρ1 M
def wFor (wi : WI) (g : Tg) (wb : WS) : WS := fun D0 ρ M => wi ρ M fun T M1 => forGo T g wb D0 T.items ρ M1
theorem psd_for {tg iter : Expr} {wi : WI} {g : Tg} {w : WS} (hp : PassesOwn (model X.prog X.w) X.A X.env X.xe) (hc : X.calm = true) (hi : PI X tg iter (iD X.K wi)) (hg : PG X tg (gD X.K g)) (hb : PSs X sts (tDS X.K w)) (hs : ∀ x, foldedSetIterable iter X.env x = pure x) :
    PS X (.For tg iter sts [] pos) (tDS X.K (wFor wi g w)) := (ps_for hp hc hi hg hb hs).imp fun D σ H => by
  rintro ⟨ρ, M, F, D0, s, q, gg⟩
  refine ⟨ρ, M, F, _, s, q, fun T M1 J H1 q1 t1 f1 r1 it => ?_⟩
  refine ⟨fun i m σ' H' => m = T.items.length - i ∧ i ≤ T.items.length ∧ ∃ ρ' M', Stt X.K H' σ' ρ' M' F ∧ TupS X.K H H' ∧ Frm F H H' M' ∧ TupS X.K H1 H' ∧ forGo T g w D0 (T.items.drop i) ρ' M', ⟨T.items.length, rfl, Nat.zero_le _, ρ, M1, s.next t1 f1 r1, t1, f1, .refl _, q1⟩, ?_⟩
  rintro i m σ2 H2 ⟨rfl, hi, ρ2, M2, s2, t2, f2, tt2, q2⟩
  by_cases hlt : i < T.items.length
  · rw [List.drop_eq_getElem_cons hlt] at q2
    unfold forGo at q2
    obtain ⟨hk, ρ3, ea, q2⟩ := q2
    obtain ⟨go, yl⟩ := (it H2 M2 tt2 s2.rm hk i).1 hlt
    refine .inr ⟨go, fun σ' H' => ∃ ρ' M', Stt X.K H' σ' ρ' M' F ∧ TupS X.K H H' ∧ Frm F H H' M' ∧ TupS X.K H1 H' ∧ forGo T g w D0 (T.items.drop (i + 1)) ρ' M', fun σ' H' h => ⟨T.items.length - (i + 1), by omega, rfl, hlt, h⟩, fun x H3 hy => ?_⟩
    obtain ⟨d, ed, t3, k3, r3, p3⟩ := yl x H3 hy
    rw [List.getElem?_eq_getElem hlt] at ed
    cases ed
    have f3 : Frm F H2 H3 M2 := .of_same s2.fr k3
    refine ⟨_, ρ2, ρ3, M2, F, p3, s2.next t3 f3 r3, ea, fun σ4 _ s4 => ⟨ρ3, M2, F, _, s4, q2, ?_⟩⟩
    have nxt : ∀ ρ' M' σ' H', forGo T g w D0 (T.items.drop (i + 1)) ρ' M' → TupS X.K H3 H' → Frm F H3 H' M' → Stt X.K H' σ' ρ' M' F → ∃ ρ' M', Stt X.K H' σ' ρ' M' F ∧ TupS X.K H H' ∧ Frm F H H' M' ∧ TupS X.K H1 H' ∧ forGo T g w D0 (T.items.drop (i + 1)) ρ' M' :=
      fun ρ' M' σ' H' q' t' f' s' => ⟨ρ', M', s', (t2.trans t3).trans t', (f2.trans f3).trans f', (tt2.trans t3).trans t', q'⟩
    have g3 := ((gg.from t2 f2).from t3 f3)
    exact ⟨nxt, g3.rt, g3.nx, nxt⟩
  · have e : i = T.items.length := by omega
    subst e
    rw [List.drop_length] at q2
    unfold forGo at q2
    exact .inl ⟨(it H2 M2 tt2 s2.rm q2.1 _).2 rfl, gg.nx ρ2 M2 σ2 H2 q2.2 t2 f2 s2⟩
def wWhile (t : WT) (wb : WS) : WS := fun D0 ρ M => ∃ W : Nat → Ro → Mp → Prop, (∃ m, W m ρ M) ∧ ∀ m ρ M, W m ρ M → t ρ M fun b M1 => if b = true then wb { D0 with nx := fun ρ' M' => ∃ m', m' < m ∧ W m' ρ' M', ct := fun ρ' M' => ∃ m', m' < m ∧ W m' ρ' M', bk := D0.nx } ρ M1 else D0.nx ρ M1
theorem psd_while {wt : WT} {w : WS} (hp : PassesOwn (model X.prog X.w) X.A X.env X.xe) (hc : PT X c (tDT X.K wt)) (hb : PSs X sts (tDS X.K w)) : PS X (.While c sts [] pos) (tDS X.K (wWhile wt w)) := (ps_while hp hc hb).imp fun D σ H => by
  rintro ⟨ρ, M, F, D0, s, ⟨W, ⟨m0, w0⟩, turn⟩, gg⟩
  refine ⟨fun m σ' H' => ∃ ρ' M', Stt X.K H' σ' ρ' M' F ∧ TupS X.K H H' ∧ Frm F H H' M' ∧ W m ρ' M', ⟨m0, ρ, M, s, .refl _, s.fr.frm, w0⟩, ?_⟩
  rintro m σ1 H1 ⟨ρ1, M1, s1, t1, f1, w1⟩
  refine ⟨ρ1, M1, F, _, s1, turn m ρ1 M1 w1, fun b M2 H2 q2 t2 f2 r2 => ?_⟩
  cases b with
  | true =>
    rw [if_pos rfl] at q2 ⊢
    refine ⟨fun σ' H' => ∃ m', m' < m ∧ ∃ ρ' M', Stt X.K H' σ' ρ' M' F ∧ TupS X.K H H' ∧ Frm F H H' M' ∧ W m' ρ' M', fun σ' H' h => h, ρ1, M2, F, _, s1.next t2 f2 r2, q2, ?_⟩
    have nxt : ∀ ρ' M' σ' H', (∃ m', m' < m ∧ W m' ρ' M') → TupS X.K H2 H' → Frm F H2 H' M' → Stt X.K H' σ' ρ' M' F → ∃ m', m' < m ∧ ∃ ρ' M', Stt X.K H' σ' ρ' M' F ∧ TupS X.K H H' ∧ Frm F H H' M' ∧ W m' ρ' M' :=
      fun ρ' M' σ' H' ⟨m', hm, q'⟩ t' f' s' => ⟨m', hm, ρ', M', s', (t1.trans t2).trans t', (f1.trans f2).trans f', q'⟩
    have g3 := ((gg.from t1 f1).from t2 f2)
    exact ⟨nxt, g3.rt, g3.nx, nxt⟩
  | false =>
    rw [if_neg Bool.false_ne_true] at q2 ⊢
    exact gg.nx ρ1 M2 σ1 H2 q2 (t1.trans t2) (f1.trans f2) (s1.next t2 f2 r2)
end
end DL

set_option Elab.async false
set_option linter.all false
set_option maxRecDepth 100000
set_option maxHeartbeats 4000000
/-! DLf2: [.. for .. in .. for .. in ..]. -/
namespace DL
open PySem L2
variable {K : PySem.W.Frag}
def lcIn (T : DIt) (g : Tg) (wt : WT) (we : WE) (ρ : Ro) (fin : List D → Mp → Prop) : List D → List D → Mp → Prop
  | [], acc, M => T.keep M ∧ fin acc M
  | x :: xs, acc, M => T.keep M ∧ ∃ ρ1, g.asn x ρ = some ρ1 ∧ wt ρ1 M fun b M1 => if b = true then we ρ1 M1 fun d M2 => acc.length < sizeLine ∧ lcIn T g wt we ρ fin xs (acc ++ [d]) M2 else lcIn T g wt we ρ fin xs acc M1
def lc2Go (T : DIt) (g : Tg) (wt : WT) (wi1 : WI) (g1 : Tg) (wt1 : WT) (we : WE) (vs1 : List Nat) (ρ : Ro) (fin : List D → Mp → Prop) : List D → List D → Mp → Prop
  | [], acc, M => T.keep M ∧ fin acc M
  | x :: xs, acc, M => T.keep M ∧ ∃ ρ1, g.asn x ρ = some ρ1 ∧ wt ρ1 M fun b M1 => if b = true then wi1 ρ1 M1 fun T1 M2 => lcIn T1 g1 wt1 we (wipeD ρ1 vs1) (fun acc M3 => lc2Go T g wt wi1 g1 wt1 we vs1 ρ fin xs acc M3) T1.items acc M2 else lc2Go T g wt wi1 g1 wt1 we vs1 ρ fin xs acc M1
def wLc2 (wi : WI) (g : Tg) (wt : WT) (wi1 : WI) (g1 : Tg) (wt1 : WT) (we : WE) (vs vs1 : List Nat) : WE := fun ρ M Q => wi ρ M fun T M1 => lc2Go T g wt wi1 g1 wt1 we vs1 (wipeD ρ vs) (fun acc M2 => ∀ p, M2 p = none → Q (.ref p) (up M2 p (.lst acc))) T.items [] M1
/-- where the building stands -/
structure LcS (K : PySem.W.Frag) (F : Addr → Prop) (D : Addr) (H H1 : Hp) (acc : List DL.D) (vacc : List V) (M : Mp) (H' : Hp) : Prop where
  at_ : H' D = some (.lst vacc)
  ra : Reps K H' acc vacc
  rm : RepM K H' M
  fr : FrOk (fun a => F a ∨ a = D) H' M
  t0 : TupS K H H'
  f0 : Frm F H H' M
  t1 : TupS K H1 H'
theorem LcS.step {F : Addr → Prop} {D : Addr} {H H1 H2 H3 : Hp} {acc : List DL.D} {vacc : List V} {M2 M3 : Mp} (s : LcS K F D H H1 acc vacc M2 H2) (t : TupS K H2 H3) (f : Frm (fun a => F a ∨ a = D) H2 H3 M3) (r : RepM K H3 M3) : LcS K F D H H1 acc vacc M3 H3 :=
  ⟨by rw [(f D (.inr rfl)).1]; exact s.at_, s.ra.stay t, r, s.fr.next f, s.t0.trans t, s.f0.trans fun a ha => f a (.inl ha), s.t1.trans t⟩
theorem LcS.add {F : Addr → Prop} {D : Addr} {H H1 H2 : Hp} {acc : List DL.D} {vacc : List V} {M : Mp} {d : DL.D} {y : V} (s : LcS K F D H H1 acc vacc M H2) (nF : ∀ a, F a → a ≠ D) (p : Rep K H2 d y) : LcS K F D H H1 (acc ++ [d]) (vacc ++ [y]) M (upd H2 D (.lst (vacc ++ [y]))) ∧ TupS K H2 (upd H2 D (.lst (vacc ++ [y]))) := by
  have tl : TupS K H2 (upd H2 D (.lst (vacc ++ [y]))) := .lst s.at_
  have n5 : M D = none := (s.fr D (.inr rfl)).2
  refine ⟨⟨upd_same, (s.ra.snoc p).stay tl, s.rm.off n5 s.at_, fun a ha => ?_, s.t0.trans tl, fun a ha => ?_, s.t1.trans tl⟩, tl⟩
  · rcases ha with ha | rfl
    · exact ⟨by rw [upd_ne (nF a ha)]; exact (s.fr a (.inl ha)).1, (s.fr a (.inl ha)).2⟩
    · exact ⟨⟨_, upd_same⟩, n5⟩
  · have e := s.f0 a ha
    exact ⟨by rw [upd_ne (nF a ha)]; exact e.1, e.2⟩
theorem lc2_of {wi wi1 : WI} {g g1 : Tg} {wt wt1 : WT} {we : WE} {vs vs1 : List Nat} (hg : ∀ j ∈ g.slots, j ∈ vs) (hg1 : ∀ j ∈ g1.slots, j ∈ vs1) {σ : St} {H : Hp} {Q : VK} (h : tD K (wLc2 wi g wt wi1 g1 wt1 we vs vs1) σ H Q) :
    tLc2 (iD K wi) (gD K g) (tDT K wt) (iD K wi1) (gD K g1) (tDT K wt1) (tD K we) vs vs1 σ H Q := by
  obtain ⟨ρ, M, F, Q0, s, q, gg⟩ := h
  refine ⟨ρ, M, F, _, s, q, fun T M1 J H1 q1 t1 f1 r1 it => ?_⟩
  intro D hD
  have fr1 := s.fr.next f1
  have nF : ∀ a, F a → a ≠ D := fun a ha z => by obtain ⟨⟨o, e⟩, _⟩ := fr1 a ha; rw [z, hD] at e; cases e
  generalize hfin : (fun acc M2 => ∀ p, M2 p = none → Q0 (.ref p) (up M2 p (.lst acc))) = fin at q1
  refine ⟨fun i m H' => m = T.items.length - i ∧ i ≤ T.items.length ∧ ∃ acc vacc M', LcS K F D H H1 acc vacc M' H' ∧ lc2Go T g wt wi1 g1 wt1 we vs1 (wipeD ρ vs) fin (T.items.drop i) acc M', ⟨T.items.length, rfl, Nat.zero_le _, [], [], M1, ⟨upd_same, .nil, r1.more hD, fun a ha => ?_, t1.trans (.new hD), f1.trans (fr1.more hD), .new hD⟩, q1⟩, ?_⟩
  · rcases ha with ha | rfl
    · exact ⟨by rw [upd_ne (nF a ha)]; exact (fr1 a ha).1, (fr1 a ha).2⟩
    · exact ⟨⟨_, upd_same⟩, r1.none hD⟩
  · rintro i m H2 ⟨rfl, hi, acc, vacc, M2, S2, q2⟩
    by_cases hlt : i < T.items.length
    · rw [List.drop_eq_getElem_cons hlt] at q2
      unfold lc2Go at q2
      obtain ⟨hk, ρ1, ea, q2⟩ := q2
      obtain ⟨go, yl⟩ := (it H2 M2 S2.t1 S2.rm hk i).1 hlt
      refine .inr ⟨go, fun H' => ∃ acc vacc M', LcS K F D H H1 acc vacc M' H' ∧ lc2Go T g wt wi1 g1 wt1 we vs1 (wipeD ρ vs) fin (T.items.drop (i + 1)) acc M', fun H' ⟨acc, vacc, M', h1, h2⟩ => ⟨T.items.length - (i + 1), by omega, rfl, hlt, acc, vacc, M', h1, h2⟩, fun x H3 hy => ?_⟩
      obtain ⟨d, ed, t3, k3, r3, p3⟩ := yl x H3 hy
      rw [List.getElem?_eq_getElem hlt] at ed
      cases ed
      have f3 : Frm (fun a => F a ∨ a = D) H2 H3 M2 := .of_same S2.fr k3
      have S3 := S2.step t3 f3 r3
      have s3 : Stt K H3 (L2.wipe σ vs) (wipeD ρ vs) M2 (fun a => F a ∨ a = D) := by
        refine ⟨?_, r3, S3.fr⟩
        have e := s.rs.wipe vs
        exact ⟨e.1, fun i d h => let ⟨v, e1, e2⟩ := e.2 i d h; ⟨v, e1, e2.stay S3.t0⟩⟩
      refine ⟨_, wipeD ρ vs, ρ1, M2, _, p3, s3, ea, fun σ2 o2 s2 => ⟨wipe_off (o2.mono hg), ρ1, M2, _, _, s2, q2, fun b M4 H4 q4 t4 f4 r4 => ?_⟩⟩
      have S4 := S3.step t4 f4 r4
      cases b with
      | false =>
        rw [if_neg Bool.false_ne_true] at q4
        show if false = true then _ else _
        rw [if_neg Bool.false_ne_true]
        exact ⟨acc, vacc, M4, S4, q4⟩
      | true =>
        rw [if_pos rfl] at q4
        show if true = true then _ else _
        rw [if_pos rfl]
        have s4 := s2.next t4 f4 r4
        refine ⟨ρ1, M4, _, _, s4, q4, fun T1 M5 J1 H5 q5 t5 f5 r5 it1 => ?_⟩
        have S5 := S4.step t5 f5 r5
        have s5 := s4.next t5 f5 r5
        refine ⟨fun j k H' => k = T1.items.length - j ∧ j ≤ T1.items.length ∧ TupS K H5 H' ∧ ∃ acc vacc M', LcS K F D H H1 acc vacc M' H' ∧ lcIn T1 g1 wt1 we (wipeD ρ1 vs1) (fun acc M3 => lc2Go T g wt wi1 g1 wt1 we vs1 (wipeD ρ vs) fin (T.items.drop (i + 1)) acc M3) (T1.items.drop j) acc M', ⟨T1.items.length, rfl, Nat.zero_le _, .refl _, acc, vacc, M5, S5, q5⟩, ?_⟩
        rintro j k H6 ⟨rfl, hj, u6, acc6, vacc6, M6, S6, q6⟩
        by_cases hlt1 : j < T1.items.length
        · rw [List.drop_eq_getElem_cons hlt1] at q6
          unfold lcIn at q6
          obtain ⟨hk1, ρ2, ea1, q6⟩ := q6
          obtain ⟨go1, yl1⟩ := (it1 H6 M6 u6 S6.rm hk1 j).1 hlt1
          refine .inr ⟨go1, fun H' => TupS K H5 H' ∧ ∃ acc vacc M', LcS K F D H H1 acc vacc M' H' ∧ lcIn T1 g1 wt1 we (wipeD ρ1 vs1) (fun acc M3 => lc2Go T g wt wi1 g1 wt1 we vs1 (wipeD ρ vs) fin (T.items.drop (i + 1)) acc M3) (T1.items.drop (j + 1)) acc M', fun H' ⟨u, acc, vacc, M', h1, h2⟩ => ⟨T1.items.length - (j + 1), by omega, rfl, hlt1, u, acc, vacc, M', h1, h2⟩, fun x H7 hy7 => ?_⟩
          obtain ⟨d7, ed7, t7, k7, r7, p7⟩ := yl1 x H7 hy7
          rw [List.getElem?_eq_getElem hlt1] at ed7
          cases ed7
          have f7 : Frm (fun a => F a ∨ a = D) H6 H7 M6 := .of_same S6.fr k7
          have S7 := S6.step t7 f7 r7
          have s7 : Stt K H7 (L2.wipe σ2 vs1) (wipeD ρ1 vs1) M6 (fun a => F a ∨ a = D) := by
            refine ⟨?_, r7, S7.fr⟩
            have e := s5.rs.wipe vs1
            exact ⟨e.1, fun i d h => let ⟨v, e1, e2⟩ := e.2 i d h; ⟨v, e1, e2.stay (u6.trans t7)⟩⟩
          refine ⟨_, wipeD ρ1 vs1, ρ2, M6, _, p7, s7, ea1, fun σ3 o3 s8 => ⟨wipe_off (o3.mono hg1), ρ2, M6, _, _, s8, q6, fun b M8 H8 q8 t8 f8 r8 => ?_⟩⟩
          have S8 := S7.step t8 f8 r8
          cases b with
          | false =>
            rw [if_neg Bool.false_ne_true] at q8
            show if false = true then _ else _
            rw [if_neg Bool.false_ne_true]
            exact ⟨(u6.trans t7).trans t8, acc6, vacc6, M8, S8, q8⟩
          | true =>
            rw [if_pos rfl] at q8
            show if true = true then _ else _
            rw [if_pos rfl]
            refine ⟨ρ2, M8, _, _, s8.next t8 f8 r8, q8, fun d M9 y H9 q9 t9 f9 r9 p9 => ?_⟩
            have S9 := S8.step t9 f9 r9
            obtain ⟨hz, q9⟩ := q9
            obtain ⟨S10, tl⟩ := S9.add nF p9
            exact ⟨vacc6, S9.at_, by rw [← S9.ra.length]; exact hz, ((u6.trans t7).trans (t8.trans t9)).trans tl, acc6 ++ [d], vacc6 ++ [y], M9, S10, q9⟩
        · have e : j = T1.items.length := by omega
          subst e
          rw [List.drop_length] at q6
          unfold lcIn at q6
          obtain ⟨hk1, q6⟩ := q6
          exact .inl ⟨(it1 H6 M6 u6 S6.rm hk1 _).2 rfl, acc6, vacc6, M6, S6, q6⟩
    · have e : i = T.items.length := by omega
      subst e
      rw [List.drop_length] at q2
      unfold lc2Go at q2
      obtain ⟨hk, q2⟩ := q2
      refine .inl ⟨(it H2 M2 S2.t1 S2.rm hk _).2 rfl, ?_⟩
      subst hfin
      have n2 : M2 D = none := (S2.fr D (.inr rfl)).2
      refine gg _ _ _ H2 (q2 D n2) S2.t0 (fun a ha => ⟨(S2.f0 a ha).1, by rw [up_ne (nF a ha)]; exact (S2.f0 a ha).2⟩) (fun a o ea => ?_) rfl
      by_cases ha : a = D
      · subst ha; rw [up_same] at ea; cases ea; exact ⟨vacc, S2.at_, S2.ra⟩
      · rw [up_ne ha] at ea; exact S2.rm a o ea
section
variable {X : Cx} {pos : Pos}
theorem psd_setLc2 {i : Nat} {y : Str} {py spos : Pos} {elt tg iter tg1 iter1 : Expr} {ifs ifs1 : List Expr} {scope : Scope} {own : List (Str × Nat)} {vs1 : List Nat} {wi wi1 : WI} {g g1 : Tg} {wt wt1 : WT} {we : WE} (hc : X.calm = true) (hN : X.N.Nodup) (hy : X.N[i]? = some y) (hyl : X.env.scope.names.lookup y = some .local)
    (hsw : swapsWith (.ListComp elt [⟨tg, iter, ifs, 0⟩, ⟨tg1, iter1, ifs1, 0⟩] scope pos) (some (.Name y py)) spos.line X.env = pure true) (hi : PI X tg iter (iD X.K wi)) (ok : BlkOk X.N X.env.scope scope own) (hv : ∀ i ∈ vs1, i ∈ own.map (·.2))
    (hg : ∀ (s : Shared) (H : Hp) (C : Addr) (cl : List (Str × Addr)) (fp : List Addr), PG (X.blk s H scope (compEnvC scope cl C X.env) fp) tg (gD X.K g)) (ht : ∀ (s : Shared) (H : Hp) (C : Addr) (cl : List (Str × Addr)) (fp : List Addr), PTs (X.blk s H scope (compEnvC scope cl C X.env) fp) ifs (tDT X.K wt))
    (hi1 : ∀ (s : Shared) (H : Hp) (C : Addr) (cl : List (Str × Addr)) (fp : List Addr), PI (X.blk s H scope (compEnvC scope cl C X.env) fp) tg1 iter1 (iD X.K wi1))
    (hg1 : ∀ (s : Shared) (H : Hp) (C : Addr) (cl : List (Str × Addr)) (fp : List Addr), PG (X.blk s H scope (compEnvC scope cl C X.env) fp) tg1 (gD X.K g1)) (ht1 : ∀ (s : Shared) (H : Hp) (C : Addr) (cl : List (Str × Addr)) (fp : List Addr), PTs (X.blk s H scope (compEnvC scope cl C X.env) fp) ifs1 (tDT X.K wt1))
    (he : ∀ (s : Shared) (H : Hp) (C : Addr) (cl : List (Str × Addr)) (fp : List Addr), PE (X.blk s H scope (compEnvC scope cl C X.env) fp) elt (tD X.K we)) (hs : ∀ x, foldedSetIterable iter X.env x = pure x) (hs1 : ∀ env x, foldedSetIterable iter1 env x = pure x) (hgs : ∀ j ∈ g.slots, j ∈ own.map (·.2)) (hgs1 : ∀ j ∈ g1.slots, j ∈ vs1) :
    PS X (.Assign [.Name y py] (.ListComp elt [⟨tg, iter, ifs, 0⟩, ⟨tg1, iter1, ifs1, 0⟩] scope pos) spos) (tDS X.K (wAsg (wLc2 wi g wt wi1 g1 wt1 we (own.map (·.2)) vs1) (.name i))) :=
  (ps_setLc2 hc hN hy hyl hsw hi ok hv hg ht hi1 hg1 ht1 he hs hs1).imp fun D σ H => by
    rintro ⟨ρ, M, F, D0, s, q, gg⟩
    refine lc2_of hgs hgs1 ⟨ρ, M, F, _, s, q, fun d M1 v H1 q1 t1 f1 r1 p1 => ?_⟩
    obtain ⟨ρ', e, q1⟩ := q1
    unfold Tg.asn at e
    cases e
    exact gg.nx _ M1 _ H1 q1 t1 f1 ((s.next t1 f1 r1).set p1 i)
theorem pd_lc2 {elt tg iter tg1 iter1 : Expr} {ifs ifs1 : List Expr} {scope : Scope} {own : List (Str × Nat)} {vs1 : List Nat} {wi wi1 : WI} {g g1 : Tg} {wt wt1 : WT} {we : WE} (hc : X.calm = true) (hN : X.N.Nodup) (hi : PI X tg iter (iD X.K wi)) (ok : BlkOk X.N X.env.scope scope own) (hv : ∀ i ∈ vs1, i ∈ own.map (·.2))
    (hg : ∀ (s : Shared) (H : Hp) (C : Addr) (cl : List (Str × Addr)) (fp : List Addr), PG (X.blk s H scope (compEnvC scope cl C X.env) fp) tg (gD X.K g)) (ht : ∀ (s : Shared) (H : Hp) (C : Addr) (cl : List (Str × Addr)) (fp : List Addr), PTs (X.blk s H scope (compEnvC scope cl C X.env) fp) ifs (tDT X.K wt))
    (hi1 : ∀ (s : Shared) (H : Hp) (C : Addr) (cl : List (Str × Addr)) (fp : List Addr), PI (X.blk s H scope (compEnvC scope cl C X.env) fp) tg1 iter1 (iD X.K wi1))
    (hg1 : ∀ (s : Shared) (H : Hp) (C : Addr) (cl : List (Str × Addr)) (fp : List Addr), PG (X.blk s H scope (compEnvC scope cl C X.env) fp) tg1 (gD X.K g1)) (ht1 : ∀ (s : Shared) (H : Hp) (C : Addr) (cl : List (Str × Addr)) (fp : List Addr), PTs (X.blk s H scope (compEnvC scope cl C X.env) fp) ifs1 (tDT X.K wt1))
    (he : ∀ (s : Shared) (H : Hp) (C : Addr) (cl : List (Str × Addr)) (fp : List Addr), PE (X.blk s H scope (compEnvC scope cl C X.env) fp) elt (tD X.K we)) (hs : ∀ x, foldedSetIterable iter X.env x = pure x) (hs1 : ∀ env x, foldedSetIterable iter1 env x = pure x) (hgs : ∀ j ∈ g.slots, j ∈ own.map (·.2)) (hgs1 : ∀ j ∈ g1.slots, j ∈ vs1) :
    PE X (.ListComp elt [⟨tg, iter, ifs, 0⟩, ⟨tg1, iter1, ifs1, 0⟩] scope pos) (tD X.K (wLc2 wi g wt wi1 g1 wt1 we (own.map (·.2)) vs1)) :=
  (pe_lc2 hc hN hi ok hv hg ht hi1 hg1 ht1 he hs hs1).imp fun _ _ _ h => lc2_of hgs hgs1 h
end
end DL

set_option Elab.async false
set_option linter.all false
set_option maxRecDepth 100000
set_option maxHeartbeats 4000000
/-! DLg: calls, fields, methods of built-ins; what a text's parts must look like. -/
namespace DL
open PySem L2
variable {K : PySem.W.Frag}
/-! ### looks at a text -/
def notStar : Expr → Bool
  | .Starred _ _ => false
  | _ => true
theorem star_of {x : Expr} (h : notStar x = true) (xs : List Expr) (env : Env) : starEach (x :: xs) env = (false, eval x env) :: starEach xs env := by
  cases x <;> first | rfl | cases h
theorem stars_of {env : Env} : ∀ {xs : List Expr}, xs.all notStar = true → starEach xs env = xs.map fun x => (false, eval x env)
  | [], _ => rfl
  | x :: xs, h => by
    rw [List.all_cons, Bool.and_eq_true] at h
    rw [star_of h.1, stars_of h.2]
    rfl
theorem back_any {env : Env} {xs : List Expr} {pos : Pos} (h : xs.all notStar = true) : (backTo pos (starEach xs env)).any (·.1) = false := by
  rw [stars_of h]
  unfold backTo
  rw [List.map_map, List.any_map]
  induction xs with
  | nil => rfl
  | cons x xs ih =>
    rw [List.all_cons, Bool.and_eq_true] at h
    rw [List.any_cons, ih h.2]
    rfl
def plainTest : Expr → Bool
  | .UnaryOp .Not _ _ => false
  | .BoolOp _ _ _ => false
  | .IfExp _ _ _ _ => false
  | .Compare _ _ _ _ => false
  | _ => true
theorem test_plain {x : Expr} (h : plainTest x = true) (env : Env) (whole : Sem Value) : isTrue x env whole = (do let v ← whole; standAt x.pos; holding [v] (truthy v)) := by
  cases x with
  | UnaryOp op a p => cases op <;> first | rfl | cases h
  | BoolOp => cases h
  | IfExp => cases h
  | Compare => cases h
  | _ => rfl
def plainBase : Expr → Bool
  | .Call (.Name _ _) (_ :: _) _ _ => true
  | .Call _ _ _ _ => false
  | _ => true
theorem base_plain {x : Expr} (h : plainBase x = true) (f : Str) (env : Env) (whole : Sem Value) : attributeBase x f env whole = whole := by
  cases x with
  | Call g xs ks p => cases g <;> first | (cases xs <;> first | rfl | cases h) | cases h
  | _ => rfl
def notSlice : Expr → Bool
  | .Slice _ _ _ _ => false
  | _ => true
theorem ix_plain {x : Expr} (h : notSlice x = true) : PlainIx x := fun o i => by
  cases x <;> first | rfl | cases h
def notSet : Expr → Bool
  | .Set _ _ _ => false
  | _ => true
theorem set_plain {x : Expr} (h : notSet x = true) (env : Env) (v : Value) : foldedSetIterable x env v = pure v := by
  cases x <;> first | rfl | cases h
def isComp : Expr → Bool
  | .ListComp _ _ _ _ => true
  | .SetComp _ _ _ _ => true
  | .DictComp _ _ _ _ _ => true
  | _ => false
theorem swaps_plain {x : Expr} (h : isComp x = false) (t : Option Expr) (l : Nat) (env : Env) : swapsWith x t l env = pure false := by
  cases x <;> first | rfl | cases h
/-! ### calls of what the text has -/
structure Co where
  prog : Program
  w : World
  K : PySem.W.Frag
  mg : Str → Option Value
  base : Heap
  A : Around
def co (X : Cx) : Co := ⟨X.prog, X.w, X.K, X.mg, X.base, X.A⟩
/-- f(..) of the global x with n places and the keywords ks tells as S (places, then keywords) -/
def Callee (c : Co) (x : Str) (n : Nat) (ks : List Str) (S : Spec) : Prop := ∃ f, c.mg x = some (.ref f) ∧ PySem.W.keepIn c.K (.ref f) = true ∧
  ∀ (X : Cx), co X = c → X.calm = true → ∀ (pins : List (Addr × Obj)) (s : Shared) (σ : St) (H : Hp) (Q : VK) (us ws : List Value) (vs zs : List V), Inv X pins σ H s → Vals vs us → Vals zs ws → vs.length = n → zs.length = ks.length →
    rDL X.K S (vs ++ zs) H Q → wpAny (model X.prog X.w) X.A (call (.ref f) us (ks.zip ws)) (EP X pins σ Q) X.xe s
/-- a def's promise over data -/
def spD (K : PySem.W.Frag) (S : Spec) : Sp := fun vs H Q _ => rDL K S vs H Q
section
variable {X : Cx} {a b c : Expr} {wa wb wc : WE} {pos : Pos}
/-- argument lists, their number told -/
def GoN (K : PySem.W.Frag) (n : Nat) (F : Addr → Prop) (H : Hp) (Q0 : List D → Mp → Prop) (Q : List V → Hp → Prop) : Prop := ∀ ds M' vs H', vs.length = n → Q0 ds M' → TupS K H H' → Frm F H H' M' → RepM K H' M' → Reps K H' ds vs → Q vs H'
def tDN (K : PySem.W.Frag) (n : Nat) (w : WA) : TA := fun σ H Q => ∃ ρ M F Q0, Stt K H σ ρ M F ∧ w ρ M Q0 ∧ GoN K n F H Q0 Q
theorem pdn_nil : PA X [] (tDN X.K 0 wNil) := pa_nil.imp fun σ H Q => by
  rintro ⟨ρ, M, F, Q0, s, q, g⟩
  exact g [] M [] H rfl q (.refl _) s.fr.frm s.rm .nil
theorem cons_of {w : WE} {u : WA} {n : Nat} {σ : St} {H : Hp} {Q : List V → Hp → Prop} (h : tDN K (n + 1) (wCons w u) σ H Q) : tCons (tD K w) (tDN K n u) σ H Q := by
  obtain ⟨ρ, M, F, Q0, s, q, g⟩ := h
  refine ⟨ρ, M, F, _, s, q, fun x M1 v H1 q1 t1 f1 r1 p1 => ⟨ρ, M1, F, _, s.next t1 f1 r1, q1, fun ds M2 vs H2 hl q2 t2 f2 r2 p2 => ?_⟩⟩
  exact g _ M2 _ H2 (by rw [List.length_cons, hl]) q2 (t1.trans t2) (f1.trans f2) r2 (.cons (p1.stay t2) p2)
theorem pdn_cons {es : List Expr} {u : WA} {n : Nat} (ha : PE X a (tD X.K wa)) (hr : PA X es (tDN X.K n u)) (hs : starEach (a :: es) X.env = (false, eval a X.env) :: starEach es X.env) : PA X (a :: es) (tDN X.K (n + 1) (wCons wa u)) := (pa_cons ha hr hs).imp fun _ _ _ h => cons_of h
theorem pdn_a {es : List Expr} {u : WA} {n : Nat} (h : PA X es (tDN X.K n u)) : PA X es (tDA X.K u) := h.imp fun σ H Q => by
  rintro ⟨ρ, M, F, Q0, s, q, g⟩
  exact ⟨ρ, M, F, Q0, s, q, fun ds M' vs H' _ q t f r p => g ds M' vs H' q t f r p⟩
theorem _root_.L2.PK.imp {kws : List Keyword} {t t' : TA} (h : PK X kws t) (i : ∀ σ H Q, t' σ H Q → t σ H Q) : PK X kws t' := ⟨fun pos pins s σ H Q I q => h.run pos pins s σ H Q I (i σ H Q q)⟩
theorem pdk_nil : PK X [] (tDN X.K 0 wNil) := pk_nil.imp fun σ H Q => by
  rintro ⟨ρ, M, F, Q0, s, q, g⟩
  exact g [] M [] H rfl q (.refl _) s.fr.frm s.rm .nil
theorem pdk_cons {kws : List Keyword} {u : WA} {nm : Option Str} {kpos : Pos} {n : Nat} (ha : PE X a (tD X.K wa)) (hr : PK X kws (tDN X.K n u)) : PK X (⟨nm, a, kpos⟩ :: kws) (tDN X.K (n + 1) (wCons wa u)) := (pk_cons ha hr).imp fun _ _ _ h => cons_of h
theorem pd_call0 {x : Str} {S : Spec} {p : Pos} (hx : Callee (co X) x 0 [] S) (hc : X.calm = true) (hg : Gl X x) (hdb : (x == ("__debug__" : Str)) = false) : PE X (.Call (.Name x p) [] [] pos) (tD X.K (wCall S wNil)) := by
  obtain ⟨f, hm, hk, run⟩ := hx
  refine ⟨fun pins s σ H Q I h => ?_⟩
  refine wpAny_Call_Name_kw (ld_glob I hg hm ?_ hdb)
  obtain ⟨ρ, M, F, Q0, s0, q, g⟩ := h
  exact PySem.W.callWith_K0 I.kIn hk (run X rfl hc pins s σ H Q [] [] [] [] I .nil .nil rfl rfl ⟨[], M, F, Q0, .nil, s0.rm, s0.fr, q, g⟩)
theorem pd_call {x : Str} {n : Nat} {S : Spec} {p : Pos} {e : Expr} {es : List Expr} {u : WA} (hx : Callee (co X) x n [] S) (hc : X.calm = true) (hg : Gl X x) (hdb : (x == ("__debug__" : Str)) = false) (ha : PA X (e :: es) (tDN X.K n u)) (hs : (e :: es).all notStar = true) :
    PE X (.Call (.Name x p) (e :: es) [] pos) (tD X.K (wCall S u)) := by
  obtain ⟨f, hm, hk, run⟩ := hx
  refine ⟨fun pins s σ H Q I h => ?_⟩
  refine wpAny_Call_Name_kw (ld_glob I hg hm ?_ hdb)
  obtain ⟨ρ, M, F, Q0, s0, q, g⟩ := h
  rw [List.all_cons, Bool.and_eq_true] at hs
  refine PySem.W.callWith_K (h₀ := X.base) I.ok.mod.kin hk (thn (ha.run pos pins s σ H (fun vs H1 => vs.length = n ∧ rDL X.K S vs H1 Q) I ⟨ρ, M, F, _, s0, q, fun ds M1 vs H1 hl q1 t1 f1 r1 p1 => ⟨hl, ds, M1, F, Q0, p1, r1, s0.fr.next f1, q1, g.from t1 f1⟩⟩) fun us s1 ⟨vs, H1, I1, r, hl, q⟩ => ⟨I1.kIn, ?_⟩) (star_of hs.1 _ _) (back_any hs.2)
  exact run X rfl hc pins s1 σ H1 Q us [] vs [] I1 r .nil hl rfl (by rw [List.append_nil]; exact q)
/-- with keywords -/
def wCallK (S : Spec) (u uk : WA) : WE := fun ρ M Q => u ρ M fun ds M1 => uk ρ M1 fun es M2 => S (ds ++ es) M2 Q
def kwNames : List Keyword → List (Option Str)
  | [] => []
  | ⟨n, _, _⟩ :: r => n :: kwNames r
theorem kw_all {env : Env} {pos : Pos} : ∀ {kws : List Keyword} {ks : List Str}, kwNames kws = ks.map some → (backToKw pos (keywordEach kws env)).all (·.1.isSome) = true ∧ (backToKw pos (keywordEach kws env)).filterMap (·.1) = ks ∧ (backToKw pos (keywordEach kws env)).any (·.1.isNone) = false
  | [], [], _ => ⟨rfl, rfl, rfl⟩
  | [], _ :: _, h => by cases h
  | ⟨n, v, q⟩ :: r, [], h => by cases h
  | ⟨n, v, q⟩ :: r, k :: ks, h => by
    have h' : n :: kwNames r = some k :: ks.map some := h
    injection h' with h1 h2
    subst h1
    obtain ⟨a1, a2, a3⟩ := kw_all (env := env) (pos := pos) h2
    refine ⟨?_, ?_, ?_⟩
    · show (_ && (backToKw pos (keywordEach r env)).all (·.1.isSome)) = true
      rw [a1]; rfl
    · show k :: (backToKw pos (keywordEach r env)).filterMap (·.1) = k :: ks
      rw [a2]
    · show (_ || (backToKw pos (keywordEach r env)).any (·.1.isNone)) = false
      rw [a3]; rfl
theorem run_kw {n m : Nat} {S : Spec} {u uk : WA} {σ : St} {H : Hp} {Q : VK} (h : tD K (wCallK S u uk) σ H Q) : tDN K n u σ H fun vs H1 => tDN K m uk σ H1 fun zs H2 => vs.length = n ∧ zs.length = m ∧ rDL K S (vs ++ zs) H2 Q := by
  obtain ⟨ρ, M, F, Q0, s, q, g⟩ := h
  refine ⟨ρ, M, F, _, s, q, fun ds M1 vs H1 hl q1 t1 f1 r1 p1 => ⟨ρ, M1, F, _, s.next t1 f1 r1, q1, fun es M2 zs H2 hl2 q2 t2 f2 r2 p2 => ⟨hl, hl2, ds ++ es, M2, F, Q0, (p1.stay t2).append p2, r2, (s.fr.next f1).next f2, q2, (g.from t1 f1).from t2 f2⟩⟩⟩
theorem pd_callK {x : Str} {n : Nat} {ks : List Str} {S : Spec} {p : Pos} {e : Expr} {es : List Expr} {kws : List Keyword} {u uk : WA} (hx : Callee (co X) x n ks S) (hc : X.calm = true) (hg : Gl X x) (hdb : (x == ("__debug__" : Str)) = false) (ha : PA X (e :: es) (tDN X.K n u)) (hs : (e :: es).all notStar = true)
    (hk : PK X kws (tDN X.K ks.length uk)) (hks : kwNames kws = ks.map some) : PE X (.Call (.Name x p) (e :: es) kws pos) (tD X.K (wCallK S u uk)) := by
  obtain ⟨f, hm, hkp, run⟩ := hx
  obtain ⟨a1, a2, a3⟩ := kw_all (env := X.env) (pos := pos) hks
  refine ⟨fun pins s σ H Q I h => ?_⟩
  refine wpAny_Call_Name_kw (ld_glob I hg hm ?_ hdb)
  have hs' := hs
  rw [List.all_cons, Bool.and_eq_true] at hs'
  refine PySem.W.callWith_KW (h₀ := X.base) I.ok.mod.kin hkp a1 (thn (ha.run pos pins s σ H _ I (run_kw (m := ks.length) h)) fun us s1 ⟨vs, H1, I1, r, q⟩ => ?_) (by rw [back_any hs, a3]; rfl) (star_of hs'.1 _ _)
  refine thn (hk.run pos pins s1 σ H1 _ I1 q) fun ws s2 ⟨zs, H2, I2, rz, l1, l2, q2⟩ => ⟨I2.kIn, ?_⟩
  rw [a2]
  exact run X rfl hc pins s2 σ H2 Q us ws vs zs I2 r rz l1 l2 q2
theorem pd_callK0 {x : Str} {ks : List Str} {S : Spec} {p : Pos} {kws : List Keyword} {uk : WA} (hx : Callee (co X) x 0 ks S) (hc : X.calm = true) (hg : Gl X x) (hdb : (x == ("__debug__" : Str)) = false)
    (hk : PK X kws (tDN X.K ks.length uk)) (hks : kwNames kws = ks.map some) : PE X (.Call (.Name x p) [] kws pos) (tD X.K (wCallK S wNil uk)) := by
  obtain ⟨f, hm, hkp, run⟩ := hx
  obtain ⟨a1, a2, a3⟩ := kw_all (env := X.env) (pos := pos) hks
  refine ⟨fun pins s σ H Q I h => ?_⟩
  refine wpAny_Call_Name_kw (ld_glob I hg hm ?_ hdb)
  obtain ⟨ρ, M, F, Q0, s0, q, g⟩ := h
  refine PySem.W.callWith_KW0 (h₀ := X.base) I.ok.mod.kin hkp a1 (thn (hk.run pos pins s σ H (fun zs H2 => zs.length = ks.length ∧ rDL X.K S zs H2 Q) I ⟨ρ, M, F, _, s0, q, fun es M2 zs H2 hl2 q2 t2 f2 r2 p2 => ⟨hl2, es, M2, F, Q0, p2, r2, s0.fr.next f2, q2, g.from t2 f2⟩⟩) fun ws s2 ⟨zs, H2, I2, rz, l2, q2⟩ => ⟨I2.kIn, ?_⟩) (by rw [a3]; rfl)
  rw [a2]
  exact run X rfl hc pins s2 σ H2 Q [] ws [] zs I2 .nil rz rfl l2 q2
/-! ### fields -/
/-- a class whose instances have plain fields -/
structure Cf (K : PySem.W.Frag) (C : Addr) (f : Str) : Prop where
  cl : Cls K C
  no : NoAttr K C f
def fldD (C : Addr) (f : Str) : D → Mp → DQ → Prop := fun x M Q => ∃ a fs d, x = .ref a ∧ M a = some (.ins C fs) ∧ fs.lookup f = some d ∧ Q d M
theorem pd_fld {C : Addr} {f : Str} (h : Cf X.K C f) (ha : PE X a (tD X.K wa)) (hb : plainBase a = true) : PE X (.Attribute a f pos) (tD X.K (w1 (fldD C f) wa)) := (pe_fld ha (base_plain hb _ _ _)).imp fun σ H Q => by
  rintro ⟨ρ, M, F, Q0, s, q, g⟩
  refine ⟨ρ, M, F, _, s, q, fun x M1 v H1 q1 t1 f1 r1 p1 => ?_⟩
  obtain ⟨p, fs, d, rfl, e, l, q1⟩ := q1
  cases p1
  obtain ⟨dx, vs, e1, ps⟩ := r1 _ _ e
  obtain ⟨v, l1, rv⟩ := ps.lookup l
  exact ⟨p, C, dx, vs, v, rfl, e1, h.cl, h.no, l1, g _ M1 _ H1 q1 t1 f1 r1 rv⟩
def putD (f : Str) (v : D) : List (Str × D) → List (Str × D)
  | [] => [(f, v)]
  | (k, u) :: r => if k = f then (f, v) :: r else (k, u) :: putD f v r
end
end DL

set_option Elab.async false
set_option linter.all false
set_option maxRecDepth 100000
set_option maxHeartbeats 4000000
/-! DLh: methods of built-ins, fields stored, parallel stores; defs and classes as callees. -/
namespace DL
open PySem L2
variable {K : PySem.W.Frag}
section
variable {X : Cx} {a b c : Expr} {wa wb wc : WE} {pos apos : Pos}
/-! ### methods of built-ins -/
def tyD (T : String) (d : D) (M : Mp) : Prop := match d with
  | .str _ => T = "str"
  | .ref p => (T = "list" ∧ ∃ ds, M p = some (.lst ds)) ∨ (T = "dict" ∧ ((∃ kvs, M p = some (.dK kvs)) ∨ ∃ kvs, M p = some (.dT kvs)))
  | _ => False
theorem tyD_ok {T : String} {d : D} {M : Mp} {H : Hp} {v : V} (h : tyD T d M) (r : Rep K H d v) (m : RepM K H M) : tyV K T v H := by
  cases d <;> (try exact h.elim)
  · cases r; exact h
  · cases r
    rcases h with ⟨e, ds, h⟩ | ⟨e, ⟨ds, h⟩ | ⟨ds, h⟩⟩
    · obtain ⟨vs, h1, _⟩ := m _ _ h
      exact .inl ⟨e, vs, .of h1⟩
    · obtain ⟨vs, h1, _⟩ := m _ _ h
      exact .inr (.inr (.inl ⟨e, .inl ⟨vs, h1⟩⟩))
    · obtain ⟨vs, h1, _⟩ := m _ _ h
      exact .inr (.inr (.inl ⟨e, .inr ⟨vs, h1⟩⟩))
abbrev MSpec := D → List D → Mp → DQ → Prop
def rDM (K : PySem.W.Frag) (f : MSpec) : V → List V → Hp → VK → Prop := fun x xs H Q => ∃ dx ds M F Q0, Rep K H dx x ∧ Reps K H ds xs ∧ RepM K H M ∧ FrOk F H M ∧ f dx ds M Q0 ∧ Go K F H Q0 Q
theorem _root_.L2.MtR.lift {id : String} {r : V → List V → Hp → VK → Prop} {S : MSpec} (h : MtR X id r) (i : ∀ d ds M F H Q0 Q v vs, Rep X.K H d v → Reps X.K H ds vs → RepM X.K H M → FrOk F H M → S d ds M Q0 → Go X.K F H Q0 Q → r v vs H Q) : MtR X id (rDM X.K S) :=
  fun pins s σ H x xs v us Q I rx rv hh => by
    obtain ⟨d, ds, M, F, Q0, r0, r1, m, fr, hs, g⟩ := hh
    exact h pins s σ H x xs v us Q I rx rv (i d ds M F H Q0 Q x xs r0 r1 m fr hs g)
def wBm (T : String) (f : MSpec) (wo : WE) (u : WA) : WE := fun ρ M Q => wo ρ M fun x M1 => tyD T x M1 ∧ u ρ M1 fun ds M2 => f x ds M2 Q
theorem pd_bm0 {T id : String} {name : Str} {f : MSpec} (pa : PlainAttrs T) (slot : Slot T name id) (hty : typeOf (.builtin id) = pure (.type "method_descriptor")) (hm : MtR X id (rDM X.K f)) (ho : PE X a (tD X.K wa)) (hb : plainBase a = true) (hline : (apos.endLine == pos.line) = true) :
    PE X (.Call (.Attribute a name apos) [] [] pos) (tD X.K (wBm T f wa wNil)) := (pe_bm0 pa slot hty hm ho (base_plain hb _ _ _) hline).imp fun σ H Q => by
  rintro ⟨ρ, M, F, Q0, s, q, g⟩
  refine ⟨ρ, M, F, _, s, q, fun x M1 v H1 q1 t1 f1 r1 p1 => ⟨tyD_ok q1.1 p1 r1, x, [], M1, F, Q0, p1, .nil, r1, s.fr.next f1, q1.2, g.from t1 f1⟩⟩
theorem pd_bm {T id : String} {name : Str} {f : MSpec} {e : Expr} {es : List Expr} {u : WA} (pa : PlainAttrs T) (slot : Slot T name id) (hty : typeOf (.builtin id) = pure (.type "method_descriptor")) (hm : MtR X id (rDM X.K f)) (ho : PE X a (tD X.K wa)) (ha : PA X (e :: es) (tDA X.K u)) (hb : plainBase a = true)
    (hs : (e :: es).all notStar = true) (hl : (e :: es).length < 30) (hline : (apos.endLine == pos.line) = true) :
    PE X (.Call (.Attribute a name apos) (e :: es) [] pos) (tD X.K (wBm T f wa u)) := by
  have hs' := hs
  rw [List.all_cons, Bool.and_eq_true] at hs'
  refine (pe_bm pa slot hty hm ho ha (base_plain hb _ _ _) ?_ hline (star_of hs'.1 _ _) (back_any hs'.2)).imp fun σ H Q => ?_
  · have e1 : (backTo pos (starEach (e :: es) X.env)).all (fun x => !x.1) = true := by
      have := back_any (env := X.env) (pos := pos) hs
      rw [List.all_eq_true]
      intro x hx
      rw [List.any_eq_false] at this
      have := this x hx
      simpa using this
    rw [e1]
    have e2 : decide ((e :: es).length + ([] : List Keyword).length + (if ([] : List Keyword).isEmpty then 0 else 1) < 30) = true := by
      apply decide_eq_true
      simpa using hl
    rw [e2]
    rfl
  · rintro ⟨ρ, M, F, Q0, s, q, g⟩
    refine ⟨ρ, M, F, _, s, q, fun x M1 v H1 q1 t1 f1 r1 p1 => ⟨tyD_ok q1.1 p1 r1, ρ, M1, F, _, s.next t1 f1 r1, q1.2, fun ds M2 vs H2 q2 t2 f2 r2 p2 => ?_⟩⟩
    exact ⟨x, ds, M2, F, Q0, p1.stay t2, p2, r2, (s.fr.next f1).next f2, q2, (g.from t1 f1).from t2 f2⟩
def appendM : MSpec := fun x ds M Q => ∃ p xs y, x = .ref p ∧ ds = [y] ∧ M p = some (.lst xs) ∧ xs.length < sizeLine ∧ Q .non (up M p (.lst (xs ++ [y])))
theorem md_append : MtR X "list.append" (rDM X.K appendM) := MtR.lift (r := rAppend) mt_append fun d ds M F H Q0 Q v vs r0 r1 m fr h g => by
  obtain ⟨p, xs, y, rfl, rfl, e, hz, q⟩ := h
  cases r0
  obtain ⟨u, rfl, r2⟩ := r1.one
  obtain ⟨ws, e1, p1⟩ := m _ _ e
  exact ⟨p, ws, u, rfl, rfl, e1, by rw [← p1.length]; exact hz, g _ _ _ _ q (.lst e1) (fr.put e _) (m.put e ⟨_, upd_same, (p1.snoc r2).stay (.lst e1)⟩) rfl⟩
def extendM : MSpec := fun x ds M Q => ∃ p q xs ys, x = .ref p ∧ ds = [.ref q] ∧ M p = some (.lst xs) ∧ M q = some (.lst ys) ∧ xs.length + ys.length ≤ sizeLine ∧ Q .non (up M p (.lst (xs ++ ys)))
theorem md_extend : MtR X "list.extend" (rDM X.K extendM) := MtR.lift (r := rExtend) mt_extend fun d ds M F H Q0 Q v vs r0 r1 m fr h g => by
  obtain ⟨p, q, xs, ys, rfl, rfl, e, e', hz, h⟩ := h
  cases r0
  obtain ⟨u, rfl, r2⟩ := r1.one
  cases r2
  obtain ⟨ws, e1, p1⟩ := m _ _ e
  obtain ⟨zs, e2, p2⟩ := m _ _ e'
  exact ⟨p, q, ws, zs, rfl, rfl, e1, e2, by rw [← p1.length, ← p2.length]; exact hz, g _ _ _ _ h (.lst e1) (fr.put e _) (m.put e ⟨_, upd_same, (p1.append p2).stay (.lst e1)⟩) rfl⟩
theorem Reps.strs {H : Hp} : ∀ {bs : List Str} {vs : List V}, Reps K H (bs.map D.str) vs → vs = bs.map V.str
  | [], _, h => by unfold Reps at h; exact h
  | b :: bs, _, h => by
    unfold Reps at h
    obtain ⟨v, r, rfl, h1, h2⟩ := h
    cases h1
    rw [Reps.strs h2]
    rfl
def joinM : MSpec := fun x ds M Q => ∃ (z : Str) (d : D) (ys : List Str), x = .str z ∧ ds = [d] ∧ seqD M d (ys.map D.str) ∧ (ys.map (·.length)).sum + ys.length * z.length ≤ 16777216 ∧ Q (.str (Txt.join z ys)) M
theorem md_join : MtR X "str.join" (rDM X.K joinM) := mt_join.lift fun d ds M F H Q0 Q v vs r0 r1 m fr h g => by
  obtain ⟨z, d', ys, rfl, rfl, hs, hz, h⟩ := h
  cases r0
  obtain ⟨u, rfl, r2⟩ := r1.one
  rcases hs with rfl | ⟨p, rfl, e⟩
  · unfold Rep at r2
    obtain ⟨p, ws, rfl, s1, p1⟩ := r2
    rw [p1.strs] at s1
    exact ⟨z, p, ys, rfl, rfl, .inr s1, hz, g _ M _ H h (.refl _) fr.frm m rfl⟩
  · cases r2
    obtain ⟨ws, e1, p1⟩ := m _ _ e
    rw [p1.strs] at e1
    exact ⟨z, p, ys, rfl, rfl, .inl (.of e1), hz, g _ M _ H h (.refl _) fr.frm m rfl⟩
/-! ### fields stored -/
theorem Pairs.put {H : Hp} {f : Str} {d : D} {v : V} (r : Rep K H d v) : ∀ {ds : List (Str × D)} {vs : List (Str × V)}, Pairs K H ds vs → Pairs K H (putD f d ds) (putF f v vs)
  | [], _, h => by
    unfold Pairs at h; subst h
    unfold putD putF Pairs
    exact ⟨v, [], rfl, r, by unfold Pairs; rfl⟩
  | (k, e) :: ds, _, h => by
    unfold Pairs at h
    obtain ⟨u, q, rfl, h1, h2⟩ := h
    unfold putD putF
    by_cases hk : k = f
    · rw [if_pos hk, if_pos hk]
      unfold Pairs
      exact ⟨v, q, by rw [hk], r, h2⟩
    · rw [if_neg hk, if_neg hk]
      unfold Pairs
      exact ⟨u, _, rfl, h1, h2.put r⟩
def wFldS (C : Addr) (f : Str) (wo wv : WE) : WS := fun D0 ρ M => wv ρ M fun y M1 => wo ρ M1 fun x M2 => ∃ p fs, x = .ref p ∧ M2 p = some (.ins C fs) ∧ fs.length < 1000 ∧ D0.nx ρ (up M2 p (.ins C (putD f y fs)))
theorem psd_fld {C : Addr} {f : Str} {pos' : Pos} (h : Cf X.K C f) (ho : PE X a (tD X.K wa)) (hv : PE X b (tD X.K wb)) (hs : swapsWith b (some (.Attribute a f pos')) pos.line X.env = pure false) : PS X (.Assign [.Attribute a f pos'] b pos) (tDS X.K (wFldS C f wa wb)) :=
  (ps_fld ho hv hs).imp fun D σ H => by
    rintro ⟨ρ, M, F, D0, s, q, g⟩
    refine ⟨ρ, M, F, _, s, q, fun y M1 v H1 q1 t1 f1 r1 p1 => ⟨ρ, M1, F, _, s.next t1 f1 r1, q1, fun x M2 u H2 q2 t2 f2 r2 p2 => ?_⟩⟩
    obtain ⟨p, fs, rfl, e, hl, q2⟩ := q2
    cases p2
    obtain ⟨dx, vs, e1, ps⟩ := r2 _ _ e
    have fr2 := (s.fr.next f1).next f2
    have tt : TupS X.K H2 (upd H2 p (.ins C dx (putF f v vs))) := .ins e1
    have rm : RepM X.K (upd H2 p (.ins C dx (putF f v vs))) (up M2 p (.ins C (putD f y fs))) := r2.put e ⟨dx, _, upd_same, (ps.put (p1.stay t2)).stay tt⟩
    have ff := fr2.put (u := .ins C dx (putF f v vs)) e (.ins C (putD f y fs))
    refine ⟨p, C, dx, vs, rfl, e1, h.cl, h.no, by rw [← ps.length]; exact hl, ?_⟩
    exact g.nx ρ _ σ _ q2 ((t1.trans t2).trans tt) ((f1.trans f2).trans ff) (((s.next t1 f1 r1).next t2 f2 r2).next tt ff rm)
/-! ### parallel stores -/
def wPar (i j : Nat) (u : WA) : WS := fun D0 ρ M => u ρ M fun ds M1 => ∃ d e, ds = [d, e] ∧ D0.nx ((ρ.set i (some d)).set j (some e)) M1
def wPar3 (i j l : Nat) (u : WA) : WS := fun D0 ρ M => u ρ M fun ds M1 => ∃ d e f, ds = [d, e, f] ∧ D0.nx (((ρ.set i (some d)).set j (some e)).set l (some f)) M1
theorem psd_par {i j : Nat} {st : Stmt} {es : List Expr} {u : WA} (hp : ∀ t : TA, PA X es t → PS X st (tPar i j t)) (ha : PA X es (tDA X.K u)) : PS X st (tDS X.K (wPar i j u)) := (hp _ ha).imp fun D σ H => by
  rintro ⟨ρ, M, F, D0, s, q, g⟩
  refine ⟨ρ, M, F, _, s, q, fun ds M1 vs H1 q1 t1 f1 r1 p1 => ?_⟩
  obtain ⟨d, e, rfl, q1⟩ := q1
  obtain ⟨v, w, rfl, p2, p3⟩ := p1.two
  exact ⟨v, w, rfl, g.nx _ M1 _ H1 q1 t1 f1 (((s.next t1 f1 r1).set p2 i).set p3 j)⟩
theorem psd_par3 {i j l : Nat} {st : Stmt} {es : List Expr} {u : WA} (hp : ∀ t : TA, PA X es t → PS X st (tPar3 i j l t)) (ha : PA X es (tDA X.K u)) : PS X st (tDS X.K (wPar3 i j l u)) := (hp _ ha).imp fun D σ H => by
  rintro ⟨ρ, M, F, D0, s, q, g⟩
  refine ⟨ρ, M, F, _, s, q, fun ds M1 vs H1 q1 t1 f1 r1 p1 => ?_⟩
  obtain ⟨d, e, f, rfl, q1⟩ := q1
  unfold Reps at p1
  obtain ⟨v, vs, rfl, p2, p1'⟩ := p1
  obtain ⟨w, z, rfl, p3, p4⟩ := p1'.two
  exact ⟨v, w, z, rfl, g.nx _ M1 _ H1 q1 t1 f1 ((((s.next t1 f1 r1).set p2 i).set p3 j).set p4 l)⟩
/-! ### o[i] = v, o a list -/
def wSetI (wo wi wv : WE) : WS := fun D0 ρ M => wv ρ M fun y M1 => wo ρ M1 fun x M2 => wi ρ M2 fun z M3 => ∃ p ds k j, x = .ref p ∧ z = .int k ∧ M3 p = some (.lst ds) ∧ ixN ds.length k = some j ∧ D0.nx ρ (up M3 p (.lst (ds.set j y)))
theorem psd_setI {i : Expr} {wi : WE} {pos' : Pos} (ho : PE X a (tD X.K wa)) (hi : PE X i (tD X.K wi)) (hv : PE X b (tD X.K wb)) (hs : swapsWithSole [.Subscript a i pos'] b pos.line X.env = pure false) (hw : swappedStores [.Subscript a i pos'] b X.env = pure none) (hns : notSlice i = true) :
    PS X (.Assign [.Subscript a i pos'] b pos) (tDS X.K (wSetI wa wi wb)) := (ps_asg hv (pg_sub ho hi set_list (by intro v; cases i <;> first | rfl | cases hns)) hs hw rfl).imp fun D σ H => by
  rintro ⟨ρ, M, F, D0, s, q, g⟩
  refine ⟨ρ, M, F, _, s, q, fun y M1 v H1 q1 t1 f1 r1 p1 => ⟨ρ, M1, F, _, s.next t1 f1 r1, q1, fun x M2 u H2 q2 t2 f2 r2 p2 => ⟨ρ, M2, F, _, (s.next t1 f1 r1).next t2 f2 r2, q2, fun z M3 w H3 q3 t3 f3 r3 p3 => ?_⟩⟩⟩
  obtain ⟨p, ds, k, j, rfl, rfl, e, ej, q3⟩ := q3
  cases p2
  cases p3
  obtain ⟨vs, e1, ps⟩ := r3 _ _ e
  have fr3 := ((s.fr.next f1).next f2).next f3
  have tt : TupS X.K H3 (upd H3 p (.lst (vs.set j v))) := .lst e1
  have ff := fr3.put (u := .lst (vs.set j v)) e (.lst (ds.set j y))
  refine ⟨p, vs, k, j, rfl, rfl, e1, by rw [← ps.length]; exact ej, ?_⟩
  exact g.nx ρ _ σ _ q3 (((t1.trans t2).trans t3).trans tt) (((f1.trans f2).trans f3).trans ff) ((((s.next t1 f1 r1).next t2 f2 r2).next t3 f3 r3).next tt ff (r3.put e ⟨_, upd_same, (ps.set (p1.stay (t2.trans t3)) j).stay tt⟩))
/-! ### a def as a callee -/
theorem rDL.len {S : Spec} {n : Nat} (hS : ∀ ds M Q, S ds M Q → ds.length = n) {K : PySem.W.Frag} {vs : List V} {H : Hp} {Q : VK} (h : rDL K S vs H Q) : vs.length = n := by
  obtain ⟨ds, M, F, Q0, r, _, _, h, _⟩ := h
  rw [← r.length]
  exact hS _ _ _ h
theorem Callee.fn {c : Co} {x : Str} {n k : Nat} {S : Spec} {f : Addr} {fd : FuncData} {ps : List Str} (F : FnOk c.prog c.w c.K c.mg c.base CX0 k f fd ps (spD c.K S)) (hr : Room k c.A) (hm : c.mg x = some (.ref f)) (hk : PySem.W.keepIn c.K (.ref f) = true) (hb : Binds c.K fd ps []) : Callee c x n [] S := by
  refine ⟨f, hm, hk, ?_⟩
  rintro X rfl hc pins s σ H Q us ws vs zs I r rz hl hz h
  have e : zs = [] := List.eq_nil_of_length_eq_zero hz
  subst e
  cases rz
  rw [List.append_nil] at h
  exact run_fn (vs := vs) F hr hb .nil pass0 I r (by rw [List.append_nil]; exact h)
/-- a class as a callee: the promise of its __init__ at the new instance -/
def makeS (C : Addr) (S : Spec) (gD : List D → List D) : Spec := fun ds M Q => ∀ x, M x = none → S (gD (.ref x :: ds)) (up M x (.ins C [])) fun d M' => d = .non ∧ Q (.ref x) M'
theorem Callee.makeK {c : Co} {x : Str} {n k : Nat} {ks : List Str} {S : Spec} {f C : Addr} {fd : FuncData} {ps : List Str} {g : List Value → List Value → List Value} {gV : List V → List V → List V} {gD : List D → List D} (Mk' : Mk c.K C f) (F : FnOk c.prog c.w c.K c.mg c.base CX0 k f fd ps (spD c.K S)) (hr : Room (k + 1) c.A) (hm : c.mg x = some (.ref C))
    (hb : KBn c.K fd ps (n + 1) ks g gV) (hg : ∀ H ds vs zs, vs.length = n → zs.length = ks.length → Reps c.K H ds (vs ++ zs) → ∀ x, Reps c.K H (gD (.ref x :: ds)) (gV (.ref x :: vs) zs)) : Callee c x n ks (makeS C S gD) := by
  refine ⟨C, hm, Mk'.kp, ?_⟩
  rintro X rfl hc pins s σ H Q us ws vs zs I r rz hl hz h
  refine run_makeK (vs := vs) (zs := zs) Mk' F hr hb pass0 I r rz hl hz fun p dx hp hdx hne => ?_
  obtain ⟨ds, M, F', Q0, rd, m, fr, h, go⟩ := h
  have n1 : upd H dx (.own p) p = none := by rw [upd_ne (Ne.symm hne)]; exact hp
  have t1 : TupS X.K H (upd H dx (.own p)) := .new hdx
  have t2 : TupS X.K (upd H dx (.own p)) (upd (upd H dx (.own p)) p (.ins C dx [])) := .new n1
  have m2 : RepM X.K (upd (upd H dx (.own p)) p (.ins C dx [])) (up M p (.ins C [])) := (m.more hdx).new n1 ⟨dx, [], upd_same, by unfold Pairs; rfl⟩
  have f1 : Frm F' H (upd H dx (.own p)) M := fr.more hdx
  have f2 := (fr.next f1).new (u := .ins C dx []) n1 (.ins C [])
  refine ⟨gD (.ref p :: ds), up M p (.ins C []), F', _, ((hg H ds vs zs hl hz rd p).stay t1).stay t2, m2, (fr.next f1).next f2, h p (m.none hp), fun d M' v H' q t f r' p' => ?_⟩
  obtain ⟨rfl, q⟩ := q
  exact ⟨p', go _ M' _ H' q ((t1.trans t2).trans t) ((f1.trans f2).trans f) r' rfl⟩
end
end DL

set_option Elab.async false
set_option linter.all false
set_option maxRecDepth 100000
set_option maxHeartbeats 8000000
/-! DLq: a long numeral read. -/
namespace DL
open PySem PySem.Calls PySem.NumText PyProof.Rows
theorem wp_most {M : Model} {A : Around} {E : Value → Shared → Prop} {s : Shared} {Q : Nat → Shared → Prop} (hd : s.heap.NoDigits) (h : Q 4300 s) : wpAny M A Builtin.intMaxStrDigits Q E s := by
  obtain ⟨mc, hns, hnone⟩ := hd
  unfold Builtin.intMaxStrDigits
  refine wpAny_bind (wpAny_nsGet hns ?_)
  rw [hnone]
  exact wpAny_pure h
theorem wp_textL {M : Model} {A : Around} {E : Value → Shared → Prop} {s : Shared} {Q : Value → Shared → Prop} {v : Value} {text : List Nat} {n : Int} (hd : s.heap.NoDigits)
    (hs : ¬ (text.takeWhile (· != 0)).length ≤ 640) (hr : (int_private% "readNumeral") 4300 10 (text.takeWhile (· != 0)) = (int_private% "Numeral.value") n)
    (ha : ((text.takeWhile (· != 0)).length == text.length) = true) (h : Q (.int n s.toks) { s with toks := s.toks + 1 }) :
    wpAny M A ((int_private% "intFromText") v text 10) Q E s := by
  obtain ⟨hp, g, d, tk, os⟩ := s
  repeat (any_goals (first
    | assumption
    | (with_reducible refine wpAny_ite_false (decide_eq_false hs) ?_)
    | (with_reducible refine wpAny_ite_true (decide_eq_true ha) ?_)
    | (with_reducible refine wp_most hd ?_)
    | wp_step))
  all_goals (try rw [hr])
  all_goals (try dsimp only)
  repeat (any_goals (first
    | assumption
    | (with_reducible refine wpAny_ite_true (decide_eq_true ha) ?_)
    | wp_step))
/-- 1 and 900 noughts -/
def bigT : PySem.Str := ("1" : PySem.Str) ++ Txt.mul "0" 900
theorem rep_signs : ∀ (n : Nat) (acc : Array Nat), ((List.replicate n (#[48] : Array Nat)).foldl (· ++ ·) acc).toList = acc.toList ++ List.replicate n 48
  | 0, acc => by simp
  | n + 1, acc => by
    rw [List.replicate_succ, List.foldl_cons, rep_signs n]
    simp [List.replicate_succ]
theorem bigT_signs : bigT.cps.toList = 49 :: List.replicate 900 48 := by
  have e : bigT.cps = ("1" : PySem.Str).cps ++ (Txt.mul "0" 900).cps := rfl
  have e2 : (Txt.mul "0" 900).cps = (List.replicate 900 (#[48] : Array Nat)).foldl (· ++ ·) #[] := by
    unfold Txt.mul
    rw [if_neg (by decide), if_neg (by decide)]
    rfl
  rw [e, Array.toList_append, e2, rep_signs]
  rfl
theorem big_dig : AllDigits bigT.cps.toList := by
  rw [bigT_signs]
  intro c hc
  rcases List.mem_cons.mp hc with rfl | hc
  · decide
  · rw [(List.mem_replicate.mp hc).2]; decide
theorem bigT_len : bigT.length = 901 := by
  have e : bigT.length = bigT.cps.toList.length := Array.length_toList.symm
  rw [e, bigT_signs, List.length_cons, List.length_replicate]
theorem val_rep : ∀ (n acc : Nat), (List.replicate n 48).foldl (fun acc c => acc * 10 + (c - 48)) acc = acc * 10 ^ n
  | 0, acc => by simp
  | n + 1, acc => by
    rw [List.replicate_succ, List.foldl_cons, val_rep n, Nat.pow_succ]
    show (acc * 10 + 0) * 10 ^ n = _
    rw [Nat.add_zero, Nat.mul_assoc, Nat.mul_comm 10]
theorem big_val : intText? bigT = some potTop := by
  rw [intText_digits big_dig (by rw [bigT_signs]; exact List.cons_ne_nil _ _) (by rw [bigT_len]; decide), bigT_signs]
  have e : digitsVal (49 :: List.replicate 900 48) = 10 ^ 900 := by
    unfold digitsVal
    rw [List.foldl_cons, val_rep]
    show (0 * 10 + 1) * 10 ^ 900 = _
    rw [Nat.zero_mul, Nat.zero_add, Nat.one_mul]
  rw [e]
  unfold potTop
  rw [Int.natCast_pow]
  rfl
theorem big_both : numTextOf bigT = bigT.cps.toList ∧ numSeenOf bigT = bigT.cps.toList := numText_signs fun c hc => .inr (big_dig c hc)
theorem big_seen : ¬ (numSeenOf bigT).length ≤ 640 := by
  rw [big_both.2, bigT_signs, List.length_cons, List.length_replicate]; decide
theorem big_read : (int_private% "readNumeral") 4300 10 (numSeenOf bigT) = (int_private% "Numeral.value") potTop ∧ ((numSeenOf bigT).length == (numTextOf bigT).length) = true := by
  rcases read4300 bigT (by rw [bigT_len, sizeLine_eq]; decide) with ⟨n, h1, h2, h3⟩ | h
  · rw [big_val] at h1
    injection h1 with h1
    rw [h1]
    exact ⟨h3, h2⟩
  · rw [big_val] at h
    simp at h
theorem meets_big {u : Tok} : Meets (Builtin.«int.__new__» ⟨[.type "int", .str bigT u], []⟩) (fun _ R s => s.heap.NoDigits ∧ R (.ok (.ret (.int potTop s.toks))) { s with toks := s.toks + 1 }) :=
  Meets.of_wp fun prog w A R s h => by
    obtain ⟨hp, g, d, tk, os⟩ := s
    obtain ⟨hd, h⟩ := h
    have hd : Shared.heap ⟨hp, g, d, tk, os⟩ |>.NoDigits := hd
    have f1 := F.conv_sub_int
    have f2 := F.madeHere_int
    have f3 := PySem.W.KIN.str_int
    have f4 := PySem.W.KIN.str_idx
    have f5 := PySem.W.KIN.str_trunc
    have hk := PySem.W.KIN.Hid.mk (And.intro big_seen big_read)
    generalize potTop = pt at hk h ⊢
    generalize bigT = x at hk ⊢
    have f6 : typeOf (.str x u) = pure (.type "str") := rfl
    repeat (any_goals (first
      | assumption
      | ((with_reducible show wpAny _ _ ((int_private% "intFromText") _ _ _) _ _ _); refine wp_textL hd hk.out.1 hk.out.2.1 hk.out.2.2 ?_)
      | wp_step))
    all_goals first | exact ⟨_, rfl, h⟩ | exact h | skip
open L2 in
theorem cd_big {X : Cx} (hd : X.base.NoDigits) : CallR X (.type "int") (fun xs H Q => xs = [.str bigT] ∧ Q (.int potTop) H) := by
  intro pins s σ H xs us Q I rs h
  obtain ⟨rfl, h⟩ := h
  cases rs with
  | cons r1 rs =>
    cases rs
    obtain ⟨t, rfl⟩ := r1
    exact call_int_1 meets_big ⟨hd.keeps I.bk, rfl, ⟨.int potTop, H, I.tok _, ⟨_, rfl⟩, h⟩⟩
end DL

set_option Elab.async false
set_option linter.all false
set_option maxRecDepth 100000
set_option maxHeartbeats 8000000
/-! DLr: ==, !=, len of own instances; repr. -/
namespace DL
open PySem PySem.Spec PyProof.Rows L2
section
open PySem.W
variable {prog : Program} {w : World} {A : Around} {E : Value → Shared → Prop} {s : Shared} {K : Frag} {x f C L : Addr} {h₀ : Heap} {m : Str → Option Value} {ox : Obj} {od : Option Obj} {b tb : Value}
theorem ne_slot : Slot "object" "__ne__" "object.__ne__" := F.cmp_object.ne
/-- x != b where the class has its own __eq__, and __ne__ is object's -/
theorem ne_own {Q : Value → Shared → Prop} (hu : A.units + 1 < cLine) (X : K.In s.heap) (I : InstAt s.heap x ox C od) (hb : Looks (model prog w) s.heap (typeOf b) tb) (hn : notFirst K C tb = true)
    (hs : findIn K (.ref C) "__ne__" = some (some (.builtin "object.__ne__"))) (ho : subIn K (.ref C) (.type "object") = some true) (he : findIn K (.ref C) "__eq__" = some (some (.ref f))) (hf : isFn K (.ref f) = true)
    (h : wpAny (model prog w) A.in1 (call (.ref f) [.ref x, b]) (fun v s' => ∃ t : Bool, v = .bool t ∧ Q (.bool (!t)) s') E s) : wpAny (model prog w) A (richCompare .NotEq (.ref x) b) Q E s := by
  have one : wpAny (model prog w) A (tryCompare (.ref x) "__ne__" b) (fun r s' => ∃ v, r = some v ∧ Q v s') E s := by
    unfold tryCompare
    refine wpAny_bind ?_
    have isO : Looks (model prog w) s.heap (isInstance (.ref x) (.type "object")) true := I.type.andThen (looks_subIn X ho)
    have body : wpAny (model prog w) A (call (.builtin "object.__ne__") ([.ref x] ++ [b])) (fun v s' => ∃ t : Bool, v = .bool t ∧ Q (.bool t) s') E s := by
      refine wpAny_call (codeAny_call_builtin ne_slot.plain F.cmpEntry_ne ?_)
      refine check_slot F.cmpKind_ne F.cmpSplit_ne isO (F.cmpArgs_ne _ _) ?_
      unfold Builtin.«object.__ne__»
      refine wpAny_bind (m := slotArgs "__ne__" 1 _) (wpAny_pure ?_)
      refine wpAny_bind (wpAny_cRoomFor hu ?_)
      refine wpAny_bind (ifBound_K X I he hf (wpAny_mono h (fun v s' hv => ?_) fun _ _ e => e))
      obtain ⟨t, rfl, hq⟩ := hv
      exact wpAny_bind (wpAny_pure (wpAny_pure ⟨!t, rfl, hq⟩))
    simp only [callSpecialIfBound?, bindSpecialIfBound?]
    refine wpAny_holding (wpAny_bind (wpAny_bind (wpAny_bind (I.type.here ((looks_findIn X hs).here ?_)))))
    refine wpAny_bind (wpAny_askSetting (wpAny_ite ?_))
    rw [ne_slot.bind]
    split
    · exact wpAny_bind (wpAny_pure (wpAny_pure (by
      show wpAny (model prog w) A (call (.builtin "object.__ne__") ([.ref x] ++ [b]) >>= fun v => pure (some v)) _ E s
      exact wpAny_bind (wpAny_mono body (fun v s' h' => by obtain ⟨t, rfl, hq⟩ := h'; exact wpAny_pure (wpAny_pure ⟨_, rfl, hq⟩)) fun _ _ h' => h'))))
    · exact wpAny_tryCatch (wpAny_bind (wpAny_pure (wpAny_pure (by
      show wpAny (model prog w) A (call (.builtin "object.__ne__") ([.ref x] ++ [b]) >>= fun v => pure (some v)) _ E s
      exact wpAny_bind (wpAny_mono body (fun v s' h' => by obtain ⟨t, rfl, hq⟩ := h'; exact wpAny_pure (wpAny_pure ⟨_, rfl, hq⟩)) fun _ _ h' => h')))))
  unfold richCompare
  simp only [oneThing_ref]
  refine wpAny_holding (wpAny_bind (wpAny_cRoomFor (by omega) ?_))
  refine wpAny_bind (I.type.here (wpAny_bind (hb.here ?_)))
  split
  · rename_i q
    have e : subIn K tb (.ref C) = some false := by
      rcases Bool.or_eq_true_iff.mp hn with e | e
      · rw [beq_iff_eq.mp e] at q; simp at q
      · exact beq_iff_eq.mp e
    refine wpAny_bind ((looks_subIn X e).here ?_)
    simp only [Bool.false_eq_true, if_false]
    refine wpAny_bind (wpAny_mono one (fun r s' z => ?_) fun _ _ e => e)
    obtain ⟨v, rfl, hq⟩ := z
    exact wpAny_pure hq
  · refine wpAny_bind (wpAny_pure ?_)
    simp only [Bool.false_eq_true, if_false]
    refine wpAny_bind (wpAny_mono one (fun r s' z => ?_) fun _ _ e => e)
    obtain ⟨v, rfl, hq⟩ := z
    exact wpAny_pure hq
end
end DL

set_option Elab.async false
set_option linter.all false
set_option maxRecDepth 100000
set_option maxHeartbeats 8000000
/-! DLr2: the same over data. -/
namespace DL
open PySem PySem.Spec PyProof.Rows L2
section
variable {X : Cx} {k : Nat} {f C : Addr} {fd : FuncData} {ps : List Str} {S : Spec}
/-- the callee runs, around it a built-in -/
theorem run_at {A : Around} {pins : List (Addr × Obj)} {σ : L2.St} {H : Hp} {s : Shared} {Q : VK} {us : List Value} {vs : List V} (F : FnOk X.prog X.w X.K X.mg X.base CX0 k f fd ps (spD X.K S)) (hr : Room k A) (hf : A.frames = X.A.frames) (hb : Binds X.K fd ps [])
    (I : Inv X pins σ H s) (r : Vals vs us) (h : rDL X.K S vs H Q) : wpAny (model X.prog X.w) A (call (.ref f) us) (EP X pins σ Q) X.xe s := by
  have e0 : Env0 X.prog X.w X.K X.mg X.base A X.stack s H := by
    have e := I.env0
    exact ⟨by rw [hf]; exact e.frames, e.mod, e.bs, e.bsz, e.funs, e.frf, e.hok, e.bare⟩
  have hl : us.length = ps.length := by rw [← r.length]; exact F.len _ _ _ (fun _ _ _ => False) h
  have hb' := hb s us I.kIn (by rw [List.append_nil]; exact hl)
  rw [List.append_nil] at hb'
  refine wpAny_call (codeAny_mono (F.run A X.stack s H ⟨us, []⟩ us vs Q (fun _ _ _ => False) hr e0 hb' r h) fun r s' hq => ?_)
  cases r with
  | error e => exact pass0 pins σ H s e s' I hq
  | ok fl =>
    cases fl with
    | ret u => exact I.after hq
    | next => exact False.elim hq
    | brk => exact False.elim hq
    | cont => exact False.elim hq
/-- a class with a special method of its own -/
structure OwnM (k : Co) (C : Addr) (m : Str) (S : Spec) : Prop where
  ex : ∃ (n : Nat) (f : Addr) (fd : FuncData) (ps : List Str), FnOk k.prog k.w k.K k.mg k.base CX0 n f fd ps (spD k.K S) ∧ Room (n + 1) k.A ∧ Binds k.K fd ps [] ∧ PySem.W.findIn k.K (.ref C) m = some (some (.ref f)) ∧ PySem.W.isFn k.K (.ref f) = true
structure NeM (k : Co) (C : Addr) : Prop where
  ne : PySem.W.findIn k.K (.ref C) "__ne__" = some (some (.builtin "object.__ne__"))
  ob : PySem.W.subIn k.K (.ref C) (.type "object") = some true
def eqOD (C : Addr) (S : Spec) (neg : Bool) : D → D → Mp → DQ → Prop := fun x y M Q => ∃ a b fs gs, x = .ref a ∧ y = .ref b ∧ M a = some (.ins C fs) ∧ M b = some (.ins C gs) ∧ S [x, y] M fun d M' => ∃ t, d = .bl t ∧ Q (.bl (negB neg t)) M'
theorem od_eqO (o : OwnM (co X) C "__eq__" S) : OpR X (compareOp .Eq) (rD X.K (eqOD C S false)) := fun pins s σ H x y v u Q I rx ry h => by
  obtain ⟨n, f, fd, ps, F, hr, hb, hs, hf⟩ := o.ex
  obtain ⟨dx, dy, M, F', Q0, r1, r2, m, fr, ⟨a, b, fs, gs, rfl, rfl, ha, hb', h⟩, g⟩ := h
  cases r1; cases r2
  obtain ⟨d1, vs, e1, _⟩ := m _ _ ha
  obtain ⟨d2, ws, e2, _⟩ := m _ _ hb'
  cases rx; cases ry
  obtain ⟨mA, J, _⟩ := ins_get I.hok e1
  obtain ⟨mB, J', _⟩ := ins_get I.hok e2
  obtain ⟨od, J, _⟩ := J.look
  obtain ⟨od', J', _⟩ := J'.look
  obtain ⟨m1, hF⟩ := I.fr
  have hu : X.A.units < cLine := hr.units0
  show wpAny _ _ (richCompare .Eq _ _) _ _ _
  refine PySem.W.cmp_K (op := .Eq) (tb := .ref C) hu hF I.ok.mod.kin J J'.type (by simp [PySem.W.notFirst]) hs hf ?_
  refine wpAny_mono (run_at F (hr.mono (Nat.le_succ _)) rfl hb I (vs := [.ref a, .ref b]) (Q := fun v H' => ∃ t, v = .bl t ∧ Q (.bl t) H') (.cons rfl (.cons rfl .nil)) ⟨[.ref a, .ref b], M, F', _, .cons rfl (.cons rfl .nil), m, fr, h, fun d M' v H' q t f r p => ?_⟩) (fun v s' q => ?_) fun _ _ z => z
  · obtain ⟨tt, rfl, q⟩ := q
    cases p
    exact ⟨tt, rfl, g _ M' _ H' q t f r rfl⟩
  · obtain ⟨v, H', I', rv, tt, rfl, q⟩ := q
    cases rv
    exact ⟨.bl tt, H', I', rfl, q⟩
theorem od_neO (o : OwnM (co X) C "__eq__" S) (o2 : NeM (co X) C) : OpR X (compareOp .NotEq) (rD X.K (eqOD C S true)) := fun pins s σ H x y v u Q I rx ry h => by
  obtain ⟨n, f, fd, ps, F, hr, hb, hs, hf⟩ := o.ex
  obtain ⟨dx, dy, M, F', Q0, r1, r2, m, fr, ⟨a, b, fs, gs, rfl, rfl, ha, hb', h⟩, g⟩ := h
  cases r1; cases r2
  obtain ⟨d1, vs, e1, _⟩ := m _ _ ha
  obtain ⟨d2, ws, e2, _⟩ := m _ _ hb'
  cases rx; cases ry
  obtain ⟨mA, J, _⟩ := ins_get I.hok e1
  obtain ⟨mB, J', _⟩ := ins_get I.hok e2
  obtain ⟨od, J, _⟩ := J.look
  obtain ⟨od', J', _⟩ := J'.look
  have hu : X.A.units + 1 < cLine := by have := hr.un; have e : (co X).A.units = X.A.units := rfl; omega
  show wpAny _ _ (richCompare .NotEq _ _) _ _ _
  refine ne_own (tb := .ref C) hu I.kIn J J'.type (by simp [PySem.W.notFirst]) o2.ne o2.ob hs hf ?_
  refine wpAny_mono (run_at F hr.in1 rfl hb I (vs := [.ref a, .ref b]) (Q := fun v H' => ∃ t, v = .bl t ∧ Q (.bl (!t)) H') (.cons rfl (.cons rfl .nil)) ⟨[.ref a, .ref b], M, F', _, .cons rfl (.cons rfl .nil), m, fr, h, fun d M' v H' q t f r p => ?_⟩) (fun v s' q => ?_) fun _ _ z => z
  · obtain ⟨tt, rfl, q⟩ := q
    cases p
    exact ⟨tt, rfl, g _ M' _ H' q t f r rfl⟩
  · obtain ⟨v, H', I', rv, tt, rfl, q⟩ := q
    cases rv
    exact ⟨tt, rfl, ⟨.bl (!tt), H', I', rfl, q⟩⟩
def lenOS (C : Addr) (S : Spec) : Spec := fun ds M Q => ∃ a fs, ds = [.ref a] ∧ M a = some (.ins C fs) ∧ S [.ref a] M fun d M' => ∃ n : Int, d = .int n ∧ 0 ≤ n ∧ n < 2 ^ 63 ∧ Q (.int n) M'
theorem cd_lenO (o : OwnM (co X) C "__len__" S) : CallR X (.builtin "len") (rDL X.K (lenOS C S)) := fun pins s σ H xs us Q I rv h => by
  obtain ⟨n, f, fd, ps, F, hr, hb, hs, hf⟩ := o.ex
  obtain ⟨ds, M, F', Q0, r1, m, fr, ⟨a, fs, rfl, ha, h⟩, g⟩ := h
  obtain ⟨v, rfl, rr⟩ := r1.one
  cases rr
  obtain ⟨u, rfl, ru⟩ := vals1 rv
  obtain rfl : u = Value.ref a := ru
  obtain ⟨d1, vs, e1, _⟩ := m _ _ ha
  obtain ⟨mA, J, _⟩ := ins_get I.hok e1
  obtain ⟨od, J, _⟩ := J.look
  obtain ⟨m1, hF⟩ := I.fr
  refine PySem.W.len_K hF I.ok.mod.kin J hs hf ?_
  refine wpAny_mono (run_at F hr.in1 rfl hb I (vs := [.ref a]) (Q := fun v H' => ∃ n : Int, v = .int n ∧ 0 ≤ n ∧ n < 2 ^ 63 ∧ Q (.int n) H') (.cons rfl .nil) ⟨[.ref a], M, F', _, .cons rfl .nil, m, fr, h, fun d M' v H' q t f r p => ?_⟩) (fun v s' q => ?_) fun _ _ z => z
  · obtain ⟨tt, rfl, h0, h1, q⟩ := q
    cases p
    exact ⟨tt, rfl, h0, h1, g _ M' _ H' q t f r rfl⟩
  · obtain ⟨v, H', I', rv, tt, rfl, h0, h1, q⟩ := q
    obtain ⟨t, rfl⟩ := rv
    exact ⟨⟨h0, h1⟩, ⟨.int tt, H', I'.tok _, ⟨_, rfl⟩, q⟩⟩
/-! ### repr of a tuple -/
mutual
theorem nodict : ∀ d : D, (py d).hasDict = false
  | .non => by unfold py PyData.hasDict; rfl
  | .bl _ => by unfold py PyData.hasDict; rfl
  | .int _ => by unfold py PyData.hasDict; rfl
  | .str _ => by unfold py PyData.hasDict; rfl
  | .ty _ => by unfold py PyData.hasDict; rfl
  | .ref _ => by unfold py PyData.hasDict; rfl
  | .tup ds => by unfold py PyData.hasDict; exact nodicts ds
theorem nodicts : ∀ ds : List D, PyData.hasDictAll (pys ds) = false
  | [] => by unfold pys PyData.hasDictAll; rfl
  | d :: ds => by unfold pys PyData.hasDictAll; rw [nodict d, nodicts ds]; rfl
end
def objD : D → Bool
  | .tup _ => true
  | .ref _ => true
  | _ => false
mutual
theorem Dat.nodict {M : Mp} : ∀ {d : D} {p : PyData}, Dat M d p → p.hasDict = false
  | _, _, .non => by unfold PyData.hasDict; rfl
  | _, _, .bl _ => by unfold PyData.hasDict; rfl
  | _, _, .int _ => by unfold PyData.hasDict; rfl
  | _, _, .str _ => by unfold PyData.hasDict; rfl
  | _, _, .tup h => by unfold PyData.hasDict; exact Dats.nodict h
  | _, _, .lst _ h => by unfold PyData.hasDict; exact Dats.nodict h
theorem Dats.nodict {M : Mp} : ∀ {ds : List D} {ps : List PyData}, Dats M ds ps → PyData.hasDictAll ps = false
  | _, _, .nil => by unfold PyData.hasDictAll; rfl
  | _, _, .cons h t => by unfold PyData.hasDictAll; rw [Dat.nodict h, Dats.nodict t]; rfl
end
mutual
/-- data that may hold empty dicts, and no list -/
inductive DatK (M : Mp) : D → PyData → Prop
  | non : DatK M .non .none
  | bl (b : Bool) : DatK M (.bl b) (.bool b)
  | int (i : Int) : DatK M (.int i) (.int i)
  | str (x : Str) : DatK M (.str x) (.str x)
  | tup {ds : List D} {ps : List PyData} : DatsK M ds ps → DatK M (.tup ds) (.tuple ps)
  | dk {a : Addr} : M a = some (.dK []) → DatK M (.ref a) (.dict [])
inductive DatsK (M : Mp) : List D → List PyData → Prop
  | nil : DatsK M [] []
  | cons {d : D} {p : PyData} {ds : List D} {ps : List PyData} : DatK M d p → DatsK M ds ps → DatsK M (d :: ds) (p :: ps)
end
section
variable {pins : List (Addr × Obj)} {σ : L2.St} {H : Hp} {s : Shared} {M : Mp}
mutual
theorem DatK.reads (I : Inv X pins σ H s) (m : RepM X.K H M) : ∀ {d : D} {p : PyData} {v : V} {u : Value}, DatK M d p → Rep X.K H d v → RelV v u → ∃ as, Reads s.heap u p as ∧ sysModules ∉ as
  | _, _, _, _, .non, r, q => by cases r; cases q; exact ⟨_, Reads.none, by simp⟩
  | _, _, _, _, .bl b, r, q => by cases r; cases q; exact ⟨_, Reads.bool b, by simp⟩
  | _, _, _, _, .int i, r, q => by cases r; obtain ⟨t, rfl⟩ := q; exact ⟨_, Reads.int i t, by simp⟩
  | _, _, _, _, .str x, r, q => by cases r; obtain ⟨t, rfl⟩ := q; exact ⟨_, Reads.str x t, by simp⟩
  | _, _, _, _, .tup h, r, q => by
    unfold Rep at r
    obtain ⟨a, vs, rfl, sq, r⟩ := r
    cases q
    obtain ⟨its, rv, ⟨o, ho, hc, n, hd⟩, _⟩ := I.tuple sq
    obtain ⟨as, hr, hn⟩ := DatsK.reads I m h r rv
    exact ⟨_, Reads.tuple ho hc hd hr, hn⟩
  | _, _, _, _, .dk e, r, q => by
    cases r
    cases q
    obtain ⟨vs, e1, ps⟩ := m _ _ e
    obtain ⟨_, lo, ws, rel, o, es, ep, ho, hx, hd, hk, hp, _⟩ := dk_rd I.hok (.inl e1)
    have hvs : vs = [] := by cases ps; rfl
    subst hvs
    have hws : ws = [] := by cases rel; rfl
    subst hws
    have hes : es.toList = [] := by
      generalize es.toList = l at hp
      cases hp
      rfl
    refine ⟨_, Reads.dict (as := []) (bs := []) ho hx.1 hd (by rw [hes]; exact .nil) (by rw [hes]; exact .nil), fun z => ?_⟩
    simp only [List.append_nil, List.mem_singleton] at z
    rw [← z] at lo
    simp at lo
theorem DatsK.reads (I : Inv X pins σ H s) (m : RepM X.K H M) : ∀ {ds : List D} {ps : List PyData} {vs : List V} {us : List Value}, DatsK M ds ps → Reps X.K H ds vs → Vals vs us → ∃ as, ReadsAll s.heap us ps as ∧ sysModules ∉ as
  | _, _, _, _, .nil, r, q => by
    unfold Reps at r
    subst r
    cases q
    exact ⟨_, ReadsAll.nil, by simp⟩
  | _, _, _, _, .cons h t, r, q => by
    unfold Reps at r
    obtain ⟨v, vs, rfl, r1, r2⟩ := r
    cases q with
    | cons q1 q2 =>
      obtain ⟨as, a1, a2⟩ := DatK.reads I m h r1 q1
      obtain ⟨bs, b1, b2⟩ := DatsK.reads I m t r2 q2
      refine ⟨_, ReadsAll.cons a1 b1, fun z => ?_⟩
      rcases List.mem_append.mp z with z | z
      · exact a2 z
      · exact b2 z
end
end
def reprS0 : Spec := fun ds M Q => ∃ xs, ds = [.tup xs] ∧ plains xs = true ∧ (py (.tup xs)).showable = true ∧ (py (.tup xs)).depth ≤ 60 ∧ (py (.tup xs)).shown.length ≤ sizeLine ∧ Q (.str (py (.tup xs)).shown) M
def boolT (b : Bool) : Str := if b then "True" else "False"
/-- repr of a tuple, of a truth, of None -/
def reprS : Spec := fun ds M Q => reprS0 ds M Q ∨ (∃ b : Bool, ds = [.bl b] ∧ Q (.str (boolT b)) M) ∨ (ds = [.non] ∧ Q (.str "None") M) ∨ (∃ i : Int, ds = [.int i] ∧ i.natAbs.log2 < 1920 ∧ Q (.str (toString i)) M) ∨
  (∃ x p, ds = [x] ∧ objD x = true ∧ Dat M x p ∧ p.showable = true ∧ p.depth ≤ 60 ∧ p.shown.length ≤ sizeLine ∧ Q (.str p.shown) M) ∨ (∃ z : Str, ds = [.str z] ∧ (reprText z).length ≤ sizeLine ∧ Q (.str (reprText z)) M) ∨ (∃ a, ds = [.ref a] ∧ M a = some (.dK []) ∧ Q (.str (PyData.dict []).shown) M) ∨
  (∃ x p, ds = [.tup x] ∧ DatK M (.tup x) p ∧ p.showable = true ∧ p.depth ≤ 60 ∧ p.shown.length ≤ sizeLine ∧ Q (.str p.shown) M)
theorem cd_repr0 (hg : X.A.guards = some []) (hu : Ru X) : CallR X (.builtin "repr") (rDL X.K reprS0) := fun pins s σ H xs us Q I rv h => by
  obtain ⟨ds, M, F', Q0, r1, m, fr, ⟨xs, rfl, hp, hs, hd, hz, q⟩, g⟩ := h
  obtain ⟨v, rfl, rr⟩ := r1.one
  have rr' := rr
  unfold Rep at rr
  obtain ⟨a, ws, rfl, _, _⟩ := rr
  obtain ⟨u, rfl, ru⟩ := vals1 rv
  obtain ⟨as, e1⟩ := Dp.reads I (py (.tup xs)) _ u ((Dat.plain (M := M) (d := .tup xs) (by unfold plain; exact hp)).dp m rr') ru
  obtain rfl : u = Value.ref a := ru
  refine repr_of_reads' e1 hs (fun z => by rw [nodict] at z; cases z) hg (by have := hu; omega) (fun _ _ e => e) (fun h' u tk kp => ?_) hz
  exact ⟨.str _, H, I.kept kp, ⟨_, rfl⟩, g _ M _ H q (.refl _) fr.frm m rfl⟩
theorem cd_reprG (hg : X.A.guards = some []) (hu : Ru X) : CallR X (.builtin "repr") (rDL X.K fun ds M Q => ∃ x p, ds = [x] ∧ objD x = true ∧ Dat M x p ∧ p.showable = true ∧ p.depth ≤ 60 ∧ p.shown.length ≤ sizeLine ∧ Q (.str p.shown) M) := fun pins s σ H xs us Q I rv h => by
  obtain ⟨ds, M, F', Q0, r1, m, fr, ⟨x, p, rfl, ho, hp, hs, hd, hz, q⟩, g⟩ := h
  obtain ⟨v, rfl, rr⟩ := r1.one
  obtain ⟨u, rfl, ru⟩ := vals1 rv
  obtain ⟨as, e1⟩ := Dp.reads I p _ u (hp.dp m rr) ru
  obtain ⟨a, rfl⟩ : ∃ a, u = Value.ref a := by
    cases x with
    | tup xs => unfold Rep at rr; obtain ⟨a, ws, rfl, _, _⟩ := rr; exact ⟨a, ru⟩
    | ref a => cases rr; exact ⟨a, ru⟩
    | _ => cases ho
  refine repr_of_reads' e1 hs (fun z => by rw [hp.nodict] at z; cases z) hg (by have := hu; omega) (fun _ _ e => e) (fun h' u tk kp => ?_) hz
  exact ⟨.str _, H, I.kept kp, ⟨_, rfl⟩, g _ M _ H q (.refl _) fr.frm m rfl⟩
theorem cd_reprD (hg : X.A.guards = some []) (hu : Ru X) : CallR X (.builtin "repr") (rDL X.K fun ds M Q => ∃ a, ds = [.ref a] ∧ M a = some (.dK []) ∧ Q (.str (PyData.dict []).shown) M) := fun pins s σ H xs us Q I rv h => by
  obtain ⟨ds, M, F', Q0, r1, m, fr, ⟨a, rfl, e, q⟩, g⟩ := h
  obtain ⟨v, rfl, rr⟩ := r1.one
  obtain ⟨u, rfl, ru⟩ := vals1 rv
  cases rr
  obtain rfl : u = Value.ref a := ru
  obtain ⟨vs, e1, ps⟩ := m _ _ e
  obtain ⟨_, lo, ws, rel, o, es, ep, ho, hx, hd, hk, hp, _⟩ := dk_rd I.hok (.inl e1)
  have hvs : vs = [] := by cases ps; rfl
  subst hvs
  have hws : ws = [] := by cases rel; rfl
  subst hws
  have hes : es.toList = [] := by
    generalize es.toList = l at hp
    cases hp
    rfl
  have rd : Reads s.heap (.ref a) (.dict []) [a] := Reads.dict (as := []) (bs := []) ho hx.1 hd (by rw [hes]; exact .nil) (by rw [hes]; exact .nil)
  have hdep : (PyData.dict []).depth ≤ 1 := by decide +kernel
  refine repr_of_reads' rd (by decide +kernel) (fun _ z => by
    rw [List.mem_singleton] at z
    subst z
    simp at lo) hg (Nat.lt_of_le_of_lt (Nat.add_le_add_left (Nat.succ_le_succ hdep) _) (by have := hu; omega)) (fun _ _ e => e) (fun h' u tk kp => ?_) (by decide +kernel)
  exact ⟨.str _, H, I.kept kp, ⟨_, rfl⟩, g _ M _ H q (.refl _) fr.frm m rfl⟩
theorem cd_reprK (hg : X.A.guards = some []) (hu : Ru X) : CallR X (.builtin "repr") (rDL X.K fun ds M Q => ∃ x p, ds = [.tup x] ∧ DatK M (.tup x) p ∧ p.showable = true ∧ p.depth ≤ 60 ∧ p.shown.length ≤ sizeLine ∧ Q (.str p.shown) M) := fun pins s σ H xs us Q I rv h => by
  obtain ⟨ds, M, F', Q0, r1, m, fr, ⟨x, p, rfl, hp, hs, hd, hz, q⟩, g⟩ := h
  obtain ⟨v, rfl, rr⟩ := r1.one
  obtain ⟨u, rfl, ru⟩ := vals1 rv
  obtain ⟨as, e1, e2⟩ := hp.reads I m rr ru
  obtain ⟨a, rfl⟩ : ∃ a, u = Value.ref a := by
    unfold Rep at rr
    obtain ⟨a, ws, rfl, _, _⟩ := rr
    exact ⟨a, ru⟩
  refine repr_of_reads' e1 hs (fun _ => e2) hg (by have := hu; omega) (fun _ _ e => e) (fun h' u tk kp => ?_) hz
  exact ⟨.str _, H, I.kept kp, ⟨_, rfl⟩, g _ M _ H q (.refl _) fr.frm m rfl⟩
theorem cd_repr (hg : X.A.guards = some []) (hu : Ru X) : CallR X (.builtin "repr") (rDL X.K reprS) := fun pins s σ H xs us Q I rv h => by
  obtain ⟨ds, M, F', Q0, r1, m, fr, h | ⟨b, rfl, q⟩ | ⟨rfl, q⟩ | ⟨i, rfl, hi, q⟩ | h | ⟨z, rfl, hz, q⟩ | h | h, g⟩ := h
  · exact cd_repr0 hg hu pins s σ H xs us Q I rv ⟨ds, M, F', Q0, r1, m, fr, h, g⟩
  · obtain ⟨v, rfl, rr⟩ := r1.one
    cases rr
    obtain ⟨u, rfl, ru⟩ := vals1 rv
    obtain rfl : u = Value.bool b := ru
    exact P.repr_of_bool ⟨.str (boolT b), H, I.tok _, ⟨_, by unfold boolT; cases b <;> rfl⟩, g _ M _ H q (.refl _) fr.frm m rfl⟩
  · obtain ⟨v, rfl, rr⟩ := r1.one
    cases rr
    obtain ⟨u, rfl, ru⟩ := vals1 rv
    obtain rfl : u = Value.none := ru
    exact P.repr_of_none ⟨.str "None", H, I.tok _, ⟨_, rfl⟩, g _ M _ H q (.refl _) fr.frm m rfl⟩
  · obtain ⟨v, rfl, rr⟩ := r1.one
    cases rr
    obtain ⟨u, rfl, ru⟩ := vals1 rv
    obtain ⟨t, rfl⟩ : ∃ t, u = Value.int i t := ru
    exact P.repr_of_int hi ⟨.str (toString i), H, I.tok _, ⟨_, rfl⟩, g _ M _ H q (.refl _) fr.frm m rfl⟩
  · exact cd_reprG hg hu pins s σ H xs us Q I rv ⟨ds, M, F', Q0, r1, m, fr, h, g⟩
  · obtain ⟨v, rfl, rr⟩ := r1.one
    cases rr
    obtain ⟨u, rfl, ru⟩ := vals1 rv
    obtain ⟨t, rfl⟩ : ∃ t, u = Value.str z t := ru
    exact P.repr_of_str ⟨.str (reprText z), H, I.tok _, ⟨_, rfl⟩, g _ M _ H q (.refl _) fr.frm m rfl⟩ hz
  · exact cd_reprD hg hu pins s σ H xs us Q I rv ⟨ds, M, F', Q0, r1, m, fr, h, g⟩
  · exact cd_reprK hg hu pins s σ H xs us Q I rv ⟨ds, M, F', Q0, r1, m, fr, h, g⟩
/-! ### int("1" + "0" * 900) -/
theorem op_mul_str : OpR X (binaryOp .Mult) (fun x y H Q => x = .str "0" ∧ y = .int 900 ∧ Q (.str (Txt.mul "0" 900)) H) := fun pins s σ H x y v u Q I rx ry h => by
  obtain ⟨rfl, rfl, h⟩ := h
  obtain ⟨t, rfl⟩ := rx
  obtain ⟨t2, rfl⟩ := ry
  exact SB.mul ⟨by decide, by decide, by decide +kernel⟩ fun t' k => ⟨.str _, H, I.tok k, ⟨_, rfl⟩, h⟩
theorem bigL : (Txt.mul "0" 900).length = 900 := by
  have h := bigT_len
  have e : bigT.length = ("1" : PySem.Str).length + (Txt.mul "0" 900).length := strLen_append _ _
  rw [e] at h
  have e1 : ("1" : PySem.Str).length = 1 := by decide
  omega
end
end DL

set_option Elab.async false
set_option linter.all false
set_option maxRecDepth 100000
set_option maxHeartbeats 4000000
/-! DLs: dict comprehensions, whatever the keys' kind: HandS.DictComp's rule with the step d[k] = v left open (its proof is followed). -/
namespace DL
open PySem PySem.Spec PyProof.Rows L2
section
variable {X : Cx}
/-- what the step d[y] = z does to the heap, in any block of X -/
def PutR (X : Cx) (Pt : Addr → V → V → Hp → Hp → Prop) : Prop := ∀ (Y : Cx), Y.prog = X.prog → Y.w = X.w → Y.K = X.K → Y.A = X.A → ∀ (pins : List (Addr × Obj)) (σ : L2.St) (H H' : Hp) (s : Shared) (D : Addr) (y z : V) (u r : Value) (E : Value → Shared → Prop) (Q : Unit → Shared → Prop),
  Inv Y pins σ H s → Pt D y z H H' → RelV y u → RelV z r → (∀ s', Inv Y pins σ H' s' → Q () s') → wpAny (model Y.prog Y.w) Y.A (dictSet D u r) Q E s
def tDcx (u0 : Addr → HO) (Pt : Addr → V → V → Hp → Hp → Prop) (wi : TI) (g : TG) (tt : TT) (tk tv : TE) (vs : List Nat) : TE := fun σ H Q => wi σ H fun J H1 => ∀ D, H1 D = none → ∃ W : Nat → Nat → Hp → Prop, (∃ m, W 0 m (upd H1 D (u0 D))) ∧ ∀ i m H, W i m H →
  (J.stop i H ∧ Q (.ref D) H) ∨ (J.go i H ∧ ∃ Nx : Hp → Prop, (∀ H', Nx H' → ∃ m', m' < m ∧ W (i + 1) m' H') ∧ ∀ x H', J.yld i H x H' → g x (wipe σ vs) H' fun σ2 H2 => wipe σ2 vs = wipe σ vs ∧ tt σ2 H2 fun b H3 =>
    if b = true then tk σ2 H3 fun y H4 => tv σ2 H4 fun z H5 => ∃ H6, Pt D y z H5 H6 ∧ Nx H6 else Nx H3)
theorem dcx_core {u0 : Addr → HO} {Pt : Addr → V → V → Hp → Hp → Prop} (h0 : ∀ (H : Hp) (h : Heap), sysModules < h.objs.size → ObjOk X.prog X.w H (h.push { cls := .type "dict", data := .dict #[] }) h.objs.size (u0 h.objs.size)) (hput : PutR X Pt) {pins : List (Addr × Obj)} {s : Shared} {σ : L2.St} {H : Hp} {Q : VK} {kx vx tg iter : Expr} {ifs : List Expr} {scope : Scope} {own : List (Str × Nat)} {pos pos' : Pos} {wi : TI} {g : TG} {tt : TT} {tk tv : TE} {use : Option (Value → Sem Unit)} {Qf : Value → Shared → Prop}
    (hc : X.calm = true) (hN : X.N.Nodup) (I : Inv X pins σ H s) (hi : PI X tg iter wi) (ok : BlkOk X.N X.env.scope scope own)
    (hg : ∀ (s : Shared) (H : Hp) (C : Addr) (cl : List (Str × Addr)) (fp : List Addr), PG (X.blk s H scope (compEnvC scope cl C X.env) fp) tg g) (ht : ∀ (s : Shared) (H : Hp) (C : Addr) (cl : List (Str × Addr)) (fp : List Addr), PTs (X.blk s H scope (compEnvC scope cl C X.env) fp) ifs tt)
    (hk : ∀ (s : Shared) (H : Hp) (C : Addr) (cl : List (Str × Addr)) (fp : List Addr), PE (X.blk s H scope (compEnvC scope cl C X.env) fp) kx tk)
    (he : ∀ (s : Shared) (H : Hp) (C : Addr) (cl : List (Str × Addr)) (fp : List Addr), PE (X.blk s H scope (compEnvC scope cl C X.env) fp) vx tv) (hs : ∀ x, foldedSetIterable iter X.env x = pure x)
    (h : tDcx u0 Pt wi g tt tk tv (own.map (·.2)) σ H Q)
    (hRR : ∀ D C s' m H', Inv X pins σ H' s' → Q (.ref D) H' → s'.heap.Ns C m → FpOk X pins H' C → compPost (model X.prog X.w) X.A X.xe use Qf (.ref D) C (.ok .next) s') :
    wpAny (model X.prog X.w) X.A (comprehension (.DictComp kx vx [⟨tg, iter, ifs, 0⟩] scope pos) scope X.env pos' newDict false (eval iter X.env) use) Qf X.xe s := by
  have hfree : ∀ y ∈ scope.names, y.2 = .free → ∃ c, X.env.cells.lookup y.1 = some c := fun y hy e => by
    rcases ok.free y hy e with k | k
    · exact I.ok.has _ (.inl k)
    · exact I.ok.has _ (.inr k)
  refine wpAny_comprehension_free (use := use) rfl hs (closure_ok hfree) ok.kind (fun y hy e => by rw [ok.uniq y hy, e])
    (thn (hi.run pins s σ H _ I h) fun xv s1 hx => thn hx fun itv s2 h2 => ?_)
  obtain ⟨it, fp, tn, J, H2, e, I2, T, st2, f2, q⟩ := h2
  subst e
  refine wpAny_newObj_type (newEnv_comp ?_)
  generalize hD : s2.heap.objs.size = D
  have hDn : H2 D = none := I2.hok.fresh (Nat.le_of_eq hD)
  obtain ⟨W, ⟨m0, w0⟩, turn⟩ := q D hDn
  -- the new list
  generalize hs3 : ({ s2 with heap := s2.heap.push { cls := .type "dict", data := .dict #[] } } : Shared) = s3
  have I3 : Inv X pins σ (upd H2 D (u0 D)) s3 := by
    rw [← hs3]
    refine I2.laid (t' := s2.toks) (fun b o e => Heap.get?_push_of_some _ e) (Nat.le_of_eq hD) ?_
    rw [← hD]
    exact h0 _ s2.heap I2.big
  have h3 : s3.heap = s2.heap.push { cls := .type "dict", data := .dict #[] } := by rw [← hs3]
  have sz : ∀ b ∈ fp, b < s2.heap.objs.size := fun b hb => by
    obtain ⟨o, e, _⟩ := T.obj _ _ st2 b hb
    exact Heap.lt_size e
  have f3 : ∀ b ∈ fp, FpOk X pins (upd H2 D (u0 D)) b ∧ b < s3.heap.objs.size := fun b hb => by
    have hlt := sz b hb
    refine ⟨⟨?_, (f2 b hb).2⟩, by rw [h3, Heap.size_push]; exact Nat.lt_succ_of_lt hlt⟩
    rw [upd_ne (by rw [← hD]; exact Nat.ne_of_lt hlt)]
    exact (f2 b hb).1
  have st3 : tn 0 s3.heap := T.keep _ _ _ st2 fun b _ o e => by rw [h3]; exact Heap.get?_push_of_some _ e
  have I4 := block_start I3 ok hN f3
  have pg := hg s3 (upd H2 D (u0 D)) s3.heap.objs.size (cellsFrom (s3.heap.objs.size + 1) scope.names (cloFrom X.env.cells scope.names [])) fp
  have pt := ht s3 (upd H2 D (u0 D)) s3.heap.objs.size (cellsFrom (s3.heap.objs.size + 1) scope.names (cloFrom X.env.cells scope.names [])) fp
  have pk := hk s3 (upd H2 D (u0 D)) s3.heap.objs.size (cellsFrom (s3.heap.objs.size + 1) scope.names (cloFrom X.env.cells scope.names [])) fp
  have pe := he s3 (upd H2 D (u0 D)) s3.heap.objs.size (cellsFrom (s3.heap.objs.size + 1) scope.names (cloFrom X.env.cells scope.names [])) fp
  show codeAny _ _ (.compStart (.DictComp kx vx [⟨tg, iter, ifs, 0⟩] scope pos) 0 (.ref it) (.ref D) (compEnvC scope (cellsFrom (s3.heap.objs.size + 1) scope.names (cloFrom X.env.cells scope.names [])) s3.heap.objs.size X.env)) (compPost (model X.prog X.w) X.A X.xe use Qf (.ref D) s3.heap.objs.size) { s3 with heap := pushCells (s3.heap.push { cls := .type "dict", data := .dict #[] }) scope.names }
  have nfp : ∀ b ∈ fp, (upd H2 D (u0 D)) b = none := fun b hb => (f3 b hb).1.1
  generalize hce : compEnvC scope (cellsFrom (s3.heap.objs.size + 1) scope.names (cloFrom X.env.cells scope.names [])) s3.heap.objs.size X.env = ce at I4 pg pt pk pe ⊢
  have cL : ce.locals = s3.heap.objs.size := by subst hce; rfl
  generalize hH3 : upd H2 D (u0 D) = H3 at I3 I4 pg pt pk pe w0 nfp f3
  generalize hs4 : ({ s3 with heap := pushCells (s3.heap.push { cls := .type "dict", data := .dict #[] }) scope.names } : Shared) = s4 at I4 ⊢
  have st4 : tn 0 s4.heap := T.keep _ _ _ st3 fun b _ o e => by rw [← hs4]; exact pushCells_keeps _ _ _ _ (Heap.get?_push_of_some _ e)
  have stat : ∀ {σ' : L2.St} {H' : Hp} {s' : Shared}, Inv (X.blk s3 H3 scope ce fp) [] σ' H' s' → (∀ b ∈ fp, H' b = none) → ∀ b ∈ fp, FpOk (X.blk s3 H3 scope ce fp) [] H' b := fun {σ' H' s'} I' hn b hb =>
    ⟨hn b hb, (I'.ok.exf b hb).1, I'.ok.exfs b hb, .inl hb, fun x c e => (I'.ok.exf b hb).2 x c e, fun p hp => absurd (show p ∈ ([] : List (Addr × Obj)) ++ [] from hp) (by simp)⟩
  have loop : codeAny (model X.prog X.w) X.A (.compLoop (.DictComp kx vx [⟨tg, iter, ifs, 0⟩] scope pos) 0 (.ref it) (.ref D) ce) (compPost (model X.prog X.w) X.A X.xe use Qf (.ref D) s3.heap.objs.size) s4 := by
    refine compLoop_anyD (fun n s' => ∃ i H', Inv (X.blk s3 H3 scope ce fp) [] (wipe σ (own.map (·.2))) H' s' ∧ tn i s'.heap ∧ (∀ b ∈ fp, H' b = none) ∧ W i n H') ?_ m0 ⟨0, H3, I4, st4, nfp, w0⟩
    rintro n s5 ⟨i, H5, I5, st5, n5, w5⟩
    rcases turn i n H5 w5 with ⟨stop, qq⟩ | ⟨go, Nx, hNx, step⟩
    · have td := T.done (X.blk s3 H3 scope ce fp) rfl rfl rfl hc i [] s5 _ H5 (fun _ _ => False) I5 (stat I5 n5) st5 stop
      refine thnF td fun r s6 ⟨hr, I6⟩ => ?_
      subst hr
      -- back in the def's context
      have I7 : Inv X pins σ H5 s6 := I3.call' (ch := fp) I6.os I6.base I6.hok I6.bare fun b hb => ⟨(f3 b hb).1.2.2.2.1, (f3 b hb).1.2.1, (f3 b hb).1.2.2.2.2.1, (f3 b hb).1.2.2.2.2.2⟩
      have nC : H5 s3.heap.objs.size = none := by
        have z : H5 ce.locals = none := I6.free
        rw [cL] at z
        exact z
      obtain ⟨m, hn, _⟩ := I6.loc
      have hn : s6.heap.Ns ce.locals m := hn
      rw [cL] at hn
      exact hRR D s3.heap.objs.size s6 m H5 I7 qq hn (I3.fpOk (Nat.le_refl _) nC)
    · have ti := T.item (X.blk s3 H3 scope ce fp) rfl rfl rfl hc i [] s5 _ H5 (fun _ _ => False) I5 (stat I5 n5) st5 go
      refine thnF ti fun r s6 ⟨u, hr, h6⟩ => ?_
      subst hr
      refine thnF h6 fun _ s7 ⟨x, H7, I7, r7, y7, st7, n7⟩ => ?_
      have I7' := I7.pinned (stat I7 n7) (T.obj _ _ st7)
      refine thnF (pg.run _ s7 _ H7 x u _ I7' r7 (step x H7 y7)) fun _ s8 ⟨σ8, H8, I8, hw8, q8⟩ => ?_
      refine thnF (pt.run _ s8 σ8 H8 _ I8 q8) fun b s9 ⟨H9, I9, q9⟩ => ?_
      -- the turn's end
      have fin : ∀ {s' : Shared} {H' : Hp}, Inv (X.blk s3 H3 scope ce fp) ([] ++ pinsAt fp s7.heap) σ8 H' s' → Nx H' → ∃ m, m < n ∧ ∃ i H', Inv (X.blk s3 H3 scope ce fp) [] (wipe σ (own.map (·.2))) H' s' ∧ tn i s'.heap ∧ (∀ b ∈ fp, H' b = none) ∧ W i m H' := fun {s' H'} I' nx => by
        obtain ⟨m', hm, w'⟩ := hNx H' nx
        have pin' : ∀ b ∈ fp, ∀ o, s7.heap.get? b = some o → s'.heap.get? b = some o ∧ H' b = none := fun b hb o e =>
          let z := I'.pin (b, o) (List.mem_append_right _ (List.mem_append_right _ (mem_pinsAt hb e)))
          ⟨z.1, z.2.1⟩
        have hl : (wipe σ (own.map (·.2))).length = σ8.length := by rw [← hw8, wipe_length]
        refine ⟨m', hm, i + 1, H', (I'.unpinned (pins := [])).weak hl (fun j v e => ?_), T.keep _ _ _ st7 fun b hb o e => (pin' b hb o e).1, fun b hb => ?_, w'⟩
        · rw [← hw8] at e
          exact (wipe_some e).1
        · obtain ⟨o, e, _⟩ := T.obj _ _ st7 b hb
          exact (pin' b hb o e).2
      cases b with
      | false =>
        simp only [Bool.false_eq_true, if_false] at q9 ⊢
        exact fin I9 q9
      | true =>
        simp only [if_true] at q9 ⊢
        refine thnF (pk.run _ s9 σ8 H9 _ I9 q9) fun z s10 ⟨yk, H10, I10, r10, q10⟩ => ?_
        refine thnF (pe.run _ s10 σ8 H10 _ I10 q10) fun z2 s11 ⟨yv, H11, I11, r11, H12, pt12, nx⟩ => ?_
        exact hput (X.blk s3 H3 scope ce fp) rfl rfl rfl rfl _ _ _ _ _ _ _ _ _ _ _ _ I11 pt12 r10 r11 fun s12 I12 => fin I12 nx
  exact codeAny_compStart_dict loop (T.self X.A 0 _ _ _ st4 loop)
theorem pe_dcx {u0 : Addr → HO} {Pt : Addr → V → V → Hp → Hp → Prop} (h0 : ∀ (H : Hp) (h : Heap), sysModules < h.objs.size → ObjOk X.prog X.w H (h.push { cls := .type "dict", data := .dict #[] }) h.objs.size (u0 h.objs.size)) (hput : PutR X Pt) {kx vx tg iter : Expr} {ifs : List Expr} {scope : Scope} {own : List (Str × Nat)} {pos : Pos} {wi : TI} {g : TG} {tt : TT} {tk tv : TE} (hc : X.calm = true) (hN : X.N.Nodup) (hi : PI X tg iter wi) (ok : BlkOk X.N X.env.scope scope own)
    (hg : ∀ (s : Shared) (H : Hp) (C : Addr) (cl : List (Str × Addr)) (fp : List Addr), PG (X.blk s H scope (compEnvC scope cl C X.env) fp) tg g) (ht : ∀ (s : Shared) (H : Hp) (C : Addr) (cl : List (Str × Addr)) (fp : List Addr), PTs (X.blk s H scope (compEnvC scope cl C X.env) fp) ifs tt)
    (hk : ∀ (s : Shared) (H : Hp) (C : Addr) (cl : List (Str × Addr)) (fp : List Addr), PE (X.blk s H scope (compEnvC scope cl C X.env) fp) kx tk)
    (he : ∀ (s : Shared) (H : Hp) (C : Addr) (cl : List (Str × Addr)) (fp : List Addr), PE (X.blk s H scope (compEnvC scope cl C X.env) fp) vx tv) (hs : ∀ x, foldedSetIterable iter X.env x = pure x := by intro _; rfl) :
    PE X (.DictComp kx vx [⟨tg, iter, ifs, 0⟩] scope pos) (tDcx u0 Pt wi g tt tk tv (own.map (·.2))) := by
  refine ⟨fun pins s σ H Q I h => ?_⟩
  rw [arm_eval_DictComp]
  refine dcx_core h0 hput hc hN I hi ok hg ht hk he hs h fun D C s' m H' I' q hn f => ⟨m, hn, fun h'' sb => ?_⟩
  obtain ⟨f0, f1, f2, f3, f4, f5⟩ := f
  exact ⟨.ref D, H', I'.turned (t' := s'.toks) (fun b o hb e => (sb.2 b hb).trans e) f0 f1 f3 f4 f5, rfl, q⟩
end
end DL

set_option Elab.async false
set_option linter.all false
set_option maxRecDepth 100000
set_option maxHeartbeats 4000000
/-! DLs2: dict comprehensions over data; dicts with tuples as keys: in, d[k]. -/
namespace DL
open PySem PySem.Spec PyProof.Rows L2
variable {K : PySem.W.Frag}
def keysD : List D → Option (List Key)
  | [] => some []
  | d :: ds => match keyD d, keysD ds with
    | some k, some ks => some (k :: ks)
    | _, _ => none
theorem keyD_rep {H : Hp} {d : D} {k : Key} {v : V} (h : keyD d = some k) (r : Rep K H d v) : v = kV k := by
  cases d <;> (try cases h)
  · cases r; rfl
  · cases r; rfl
theorem keysD_reps {H : Hp} : ∀ {ds : List D} {ks : List Key} {vs : List V}, keysD ds = some ks → Reps K H ds vs → vs = ks.map kV
  | [], _, _, h, r => by unfold keysD at h; cases h; unfold Reps at r; subst r; rfl
  | d :: ds, ks, vs, h, r => by
    unfold Reps at r
    obtain ⟨v, w, rfl, r1, r2⟩ := r
    unfold keysD at h
    cases e1 : keyD d with
    | none => rw [e1] at h; cases h
    | some k =>
      cases e2 : keysD ds with
      | none => rw [e1, e2] at h; cases h
      | some l =>
        rw [e1, e2] at h
        cases h
        rw [List.map_cons, keyD_rep e1 r1, keysD_reps e2 r2]

open Classical in
noncomputable def dput (kd vd : D) : MO → Option MO
  | .dK kvs => match keyD kd with
    | some k => if k ∈ kvs.map (·.1) then some (.dK (kvs.map fun p => if p.1 = k then (p.1, vd) else p)) else some (.dK (kvs ++ [(k, vd)]))
    | none => none
  | .dX P w kvs => match kd with
    | .tup ds => match keysD ds with
      | some ks => if ks ∈ kvs.map (·.1) then none else some (.dX P w (kvs ++ [(ks, vd)]))
      | none => none
    | _ => none
  | _ => none
def dlen : MO → Nat
  | .dK kvs => kvs.length
  | .dX _ _ kvs => kvs.length
  | _ => 0
def dcGo (T : DIt) (g : Tg) (wt : WT) (wk wv : WE) (ρ : Ro) (fin : MO → Mp → Prop) : List D → MO → Mp → Prop
  | [], acc, M => T.keep M ∧ fin acc M
  | x :: xs, acc, M => T.keep M ∧ ∃ ρ1, g.asn x ρ = some ρ1 ∧ wt ρ1 M fun b M1 => if b = true then wk ρ1 M1 fun kd M2 => wv ρ1 M2 fun vd M3 => ∃ acc', dput kd vd acc = some acc' ∧ dcGo T g wt wk wv ρ fin xs acc' M3 else dcGo T g wt wk wv ρ fin xs acc M1
def wDc (emp : MO) (wi : WI) (g : Tg) (wt : WT) (wk wv : WE) (vs : List Nat) : WE := fun ρ M Q => wi ρ M fun T M1 => T.items.length ≤ sizeLine ∧ dcGo T g wt wk wv (wipeD ρ vs) (fun acc M2 => ∀ p, M2 p = none → Q (.ref p) (up M2 p acc)) T.items emp M1
/-- the kinds of dicts -/
inductive DcK where | k | t (P : Program) (w : World)
def DcK.emp : DcK → MO | .k => .dK [] | .t P w => .dX P w []
def DcK.u0 : DcK → Addr → HO | .k => fun _ => .dK [] | .t P w => fun a => .ext (TD P w a [])
def DcK.ok (X : Cx) : DcK → Prop | .k => True | .t P w => P = X.prog ∧ w = X.w
def DcK.is : DcK → MO → Prop
  | .k, o => ∃ kvs, o = .dK kvs
  | .t P w, o => ∃ kvs, o = .dX P w kvs
def DcK.Pt (K : PySem.W.Frag) : DcK → Addr → V → V → Hp → Hp → Prop
  | .k => fun D y z H H' => ∃ kvs k, y = kV k ∧ H D = some (.dK kvs) ∧ kvs.length < sizeLine ∧ H' = upd H D (.dK (putK kvs k z))
  | .t P w => fun D y z H H' => ∃ xs k b, y = .ref b ∧ H D = some (.ext (TD P w D xs)) ∧ SqT K H b (k.map kV) ∧ (∀ q ∈ xs, SqT K H q.2.1 (q.1.map kV)) ∧ k ∉ xs.map (·.1) ∧ xs.length < sizeLine ∧ H' = upd H D (.ext (TD P w D (xs ++ [(k, b, z)])))
section
variable {X : Cx}
theorem td_ok {P : Program} {w : World} {H : Hp} {h : Heap} {a : Addr} {xs : List (List Key × Addr × V)} (t : TD P w a xs h) : ObjOk P w H h a (.ext (TD P w a xs)) := by
  refine ⟨t, ?_, fun h1 h2 t1 k => ?_⟩
  · obtain ⟨_, _, _, o, _, _, e, _⟩ := t; exact ⟨o, e⟩
  · obtain ⟨s, ys, f, o, es, ep, e, r⟩ := t1
    exact ⟨s, ys, f, o, es, ep, k o e, r⟩
theorem key_sq {pins : List (Addr × Obj)} {σ : L2.St} {H : Hp} {s : Shared} {b : Addr} {ks : List Key} (I : Inv X pins σ H s) (h : SqT X.K H b (ks.map kV)) : (tupleKind (mixKind X.prog X.w)).is s.heap ks b := by
  obtain ⟨its, r, ⟨o, e1, e2, n, e3⟩, _⟩ := I.tuple h
  exact ⟨o, its.toArray, n, e1, e2, e3, by simpa using items_are r⟩
theorem fit_keys : ∀ {xs : List (List Key × Addr × V)} {ys : List (List Key × Addr × Value)}, Paired (fun (p : List Key × Addr × V) (q : List Key × Addr × Value) => p.1 = q.1 ∧ p.2.1 = q.2.1 ∧ RelV p.2.2 q.2.2) xs ys → xs.map (·.1) = ys.map (·.1) ∧ xs.length = ys.length ∧ ∀ q ∈ ys, ∃ p ∈ xs, p.1 = q.1 ∧ p.2.1 = q.2.1
  | _, _, .nil => ⟨rfl, rfl, fun q hq => by cases hq⟩
  | _, _, .cons h r => by
    obtain ⟨a, b, c⟩ := fit_keys r
    refine ⟨by rw [List.map_cons, List.map_cons, a, h.1], by rw [List.length_cons, List.length_cons, b], fun q hq => ?_⟩
    rcases List.mem_cons.mp hq with rfl | hq
    · exact ⟨_, List.mem_cons_self, h.1, h.2.1⟩
    · obtain ⟨p, hp, e⟩ := c q hq; exact ⟨p, List.mem_cons_of_mem _ hp, e⟩
/-- the dict as the library reads it -/
theorem td_dict {pins : List (Addr × Obj)} {σ : L2.St} {H : Hp} {s : Shared} {a : Addr} {xs : List (List Key × Addr × V)} (I : Inv X pins σ H s) (e : H a = some (.ext (TD X.prog X.w a xs))) (hs : ∀ q ∈ xs, SqT X.K H q.2.1 (q.1.map kV)) :
    (a == sysModules) = false ∧ ∃ ys, Paired (fun (p : List Key × Addr × V) (q : List Key × Addr × Value) => p.1 = q.1 ∧ p.2.1 = q.2.1 ∧ RelV p.2.2 q.2.2) xs ys ∧ s.heap.DictOfH (tupleKind (mixKind X.prog X.w)) a ys := by
  obtain ⟨⟨hsm, ys, f, o, es, ep, h1, h2, h3, h4, h5⟩, _, _⟩ := (show ObjOk X.prog X.w H s.heap a (.ext (TD X.prog X.w a xs)) from I.hok a _ e)
  refine ⟨hsm, ys, f, o, es, ep, h1, h2, h3, h4, fun q hq => ?_, h5⟩
  obtain ⟨p, hp, e1, e2⟩ := (fit_keys f).2.2 q hq
  have := key_sq I (hs p hp)
  rw [← e1, ← e2]
  exact this
theorem atKey_new {xs : List (List Key × Addr × Value)} {k : List Key} (h : k ∉ xs.map (·.1)) : atKey xs k = none := by
  unfold atKey
  rw [Option.map_eq_none_iff, List.find?_eq_none]
  intro x hx
  simp only [decide_eq_true_eq]
  intro e
  exact h (e ▸ List.mem_map_of_mem hx)
theorem putR (kd : DcK) (ok : kd.ok X) (hu : Ru X) : PutR X (kd.Pt X.K) := by
  intro Y e1 e2 e3 e4 pins σ H H' s D y z u r E Q I pt ry rz h
  cases kd with
  | k =>
    obtain ⟨kvs, k, rfl, hD, hz, rfl⟩ := pt
    exact d_dictSet I hD hz ry rz h
  | t P w =>
    obtain ⟨xs, k, b, rfl, hD, hb, hs, hk, hz, rfl⟩ := pt
    obtain ⟨rfl, rfl⟩ := ok
    rw [← e1, ← e2] at hD h
    rw [← e3] at hb hs
    cases (show u = Value.ref b from ry)
    obtain ⟨hsm, ys, f, dd⟩ := td_dict I hD hs
    obtain ⟨f1, f2, _⟩ := fit_keys f
    refine wpAny_dictSet_heap (hsz := by rw [← f2]; exact Nat.le_of_lt hz) (show Y.A.units < cLine by rw [e4]; have := hu; omega) (key_sq I hb) dd fun h' dd' hs' => h _ ?_
    rw [storedH_new (atKey_new (by rw [← f1]; exact hk))] at dd'
    obtain ⟨q, es, ep, hq, h2, h3, h4, _, h5⟩ := dd'
    exact d_write I (by rw [hD]; exact True.intro) hs' ⟨q, hq⟩ (td_ok ⟨hsm, _, f.snoc ⟨rfl, rfl, rz⟩, q, es, ep, hq, h2, h3, h4, h5⟩)
theorem emp_ok (kd : DcK) (ok : kd.ok X) (H : Hp) (h : Heap) (hb : sysModules < h.objs.size) : ObjOk X.prog X.w H (h.push { cls := .type "dict", data := .dict #[] }) h.objs.size (kd.u0 h.objs.size) := by
  cases kd with
  | k => exact dk_empty h hb
  | t P w =>
    obtain ⟨rfl, rfl⟩ := ok
    exact td_ok ⟨by rw [beq_eq_false_iff_ne]; exact Nat.ne_of_gt hb, [], .nil, _, #[], 0, Heap.get?_push_size _ rfl, ⟨rfl, rfl, rfl⟩, rfl, rfl, List.nodup_nil⟩
theorem emp_rep (kd : DcK) {H : Hp} {D : Addr} (hD : H D = none) : RepO K (upd H D (kd.u0 D)) D kd.emp := by
  cases kd with
  | k => exact ⟨[], upd_same, by unfold Pairs; rfl⟩
  | t P w => exact ⟨[], upd_same, by unfold TPs; rfl⟩
end
theorem Pairs.more {H : Hp} {κ : Type} {k : κ} {d : D} {v : V} (hv : Rep K H d v) : ∀ {ds : List (κ × D)} {xs : List (κ × V)}, Pairs K H ds xs → Pairs K H (ds ++ [(k, d)]) (xs ++ [(k, v)])
  | [], _, h => by unfold Pairs at h; subst h; exact ⟨v, [], rfl, hv, rfl⟩
  | (j, c) :: ds, _, h => by
    unfold Pairs at h
    obtain ⟨v', r, rfl, h1, h2⟩ := h
    exact ⟨v', _, rfl, h1, Pairs.more hv h2⟩
theorem valV_new {kvs : List (Key × V)} {k : Key} (h : k ∉ kvs.map (·.1)) : valV kvs k = none := by
  unfold valV
  rw [Option.map_eq_none_iff, List.find?_eq_none]
  intro x hx
  simp only [decide_eq_true_eq]
  intro e
  exact h (e ▸ List.mem_map_of_mem hx)
theorem Pairs.mapK {κ : Type} [DecidableEq κ] {H : Hp} {k : κ} {d : D} {v : V} (hv : Rep K H d v) : ∀ {ds : List (κ × D)} {vs : List (κ × V)}, Pairs K H ds vs → Pairs K H (ds.map fun p => if p.1 = k then (p.1, d) else p) (vs.map fun p => if p.1 = k then (p.1, v) else p)
  | [], _, h => by unfold Pairs at h; subst h; exact rfl
  | (j, c) :: ds, _, h => by
    unfold Pairs at h
    obtain ⟨u, r, rfl, h1, h2⟩ := h
    have ih := Pairs.mapK (k := k) hv h2
    rw [List.map_cons, List.map_cons]
    by_cases e : j = k
    · simp only [e, if_true]
      exact ⟨v, _, rfl, hv, ih⟩
    · simp only [e, if_false]
      exact ⟨u, _, rfl, h1, ih⟩
theorem put_rep (kd : DcK) {H : Hp} {A0 : Addr} {acc acc' : MO} {dk dv : D} {y z : V} (hi : kd.is acc) (r : RepO K H A0 acc) (h : dput dk dv acc = some acc') (rk : Rep K H dk y) (rv : Rep K H dv z) (hz : dlen acc < sizeLine) :
    ∃ u, kd.Pt K A0 y z H (upd H A0 u) ∧ RepO K (upd H A0 u) A0 acc' ∧ kd.is acc' ∧ dlen acc' ≤ dlen acc + 1 := by
  have nt := r.notup
  have ts : ∀ u, TupS K H (upd H A0 u) := fun u => .at_ nt
  cases kd with
  | k =>
    obtain ⟨kvs, rfl⟩ := hi
    obtain ⟨vs, e, ps⟩ := r
    unfold dput at h
    dsimp only at h
    cases ek : keyD dk with
    | none => rw [ek] at h; cases h
    | some k =>
      rw [ek] at h
      dsimp only at h
      split at h
      · rename_i hn
        cases h
        have hn' : k ∈ vs.map (·.1) := by rw [← ps.keys]; exact hn
        refine ⟨.dK (putK vs k z), ⟨vs, k, keyD_rep ek rk, e, by rw [← ps.length]; exact hz, rfl⟩, ⟨_, upd_same, ?_⟩, ⟨_, rfl⟩, by simp [dlen]⟩
        have ep : putK vs k z = vs.map (fun kv => if kv.1 = k then (kv.1, z) else kv) := by
          unfold putK
          obtain ⟨x, hx, e⟩ := List.mem_map.mp hn'
          rw [if_pos (List.any_eq_true.mpr ⟨x, hx, by simp [e]⟩)]
        rw [ep]
        exact (Pairs.mapK rv ps).stay (ts _)
      · rename_i hn
        cases h
        have hn' : k ∉ vs.map (·.1) := by rw [← ps.keys]; intro hm; exact hn hm
        refine ⟨.dK (putK vs k z), ⟨vs, k, keyD_rep ek rk, e, by rw [← ps.length]; exact hz, rfl⟩, ⟨_, upd_same, ?_⟩, ⟨_, rfl⟩, by simp [dlen]⟩
        rw [putK_new z (valV_new hn')]
        exact (Pairs.more rv ps).stay (ts _)
  | t P w =>
    obtain ⟨kvs, rfl⟩ := hi
    obtain ⟨xs, e, ps⟩ := r
    unfold dput at h
    dsimp only at h
    cases dk <;> (try (cases h; done))
    rename_i ds
    dsimp only at h
    cases ek : keysD ds with
    | none => rw [ek] at h; cases h
    | some ks =>
      rw [ek] at h
      dsimp only at h
      split at h
      · cases h
      · rename_i hn
        cases h
        unfold Rep at rk
        obtain ⟨b, vs, rfl, sq, rs⟩ := rk
        have evs := keysD_reps ek rs
        subst evs
        have hn' : ks ∉ xs.map (·.1) := by rw [← ps.keys]; intro hm; exact hn hm
        have el : kvs.length = xs.length := by have := congrArg List.length ps.keys; simpa using this
        refine ⟨.ext (TD P w A0 (xs ++ [(ks, b, z)])), ⟨xs, ks, b, rfl, e, sq, ps.sq, hn', by rw [← el]; exact hz, rfl⟩, ⟨_, upd_same, ?_⟩, ⟨_, rfl⟩, by simp [dlen]⟩
        exact (TPs.more sq rv ps).stay (ts _)
theorem RepM.offO {H : Hp} {M : Mp} {o : MO} (r : RepM K H M) {p : Addr} {u : HO} (h : M p = Option.none) (hp : RepO K H p o) : RepM K (upd H p u) M := fun a q e => by
  have ha : a ≠ p := fun z => by subst z; rw [h] at e; cases e
  exact (r a q e).stay (.at_ hp.notup) (upd_ne ha)
theorem dc_of (kd : DcK) {wi : WI} {g : Tg} {wt : WT} {wk wv : WE} {vs : List Nat} (hg : ∀ j ∈ g.slots, j ∈ vs) {σ : L2.St} {H : Hp} {Q : VK} (h : tD K (wDc kd.emp wi g wt wk wv vs) σ H Q) : tDcx kd.u0 (kd.Pt K) (iD K wi) (gD K g) (tDT K wt) (tD K wk) (tD K wv) vs σ H Q := by
  obtain ⟨ρ, M, F, Q0, s, q, gg⟩ := h
  refine ⟨ρ, M, F, _, s, q, fun T M1 J H1 q1 t1 f1 r1 it => ?_⟩
  obtain ⟨hlen, q1⟩ := q1
  intro D hD
  have fr1 := s.fr.next f1
  have nF : ∀ a, F a → a ≠ D := fun a ha z => by obtain ⟨⟨o, e⟩, _⟩ := fr1 a ha; rw [z, hD] at e; cases e
  generalize hfin : (fun acc M2 => ∀ p, M2 p = none → Q0 (.ref p) (up M2 p acc)) = fin at q1
  refine ⟨fun i m H' => m = T.items.length - i ∧ i ≤ T.items.length ∧ ∃ acc M', kd.is acc ∧ RepO K H' D acc ∧ dlen acc ≤ i ∧ RepM K H' M' ∧ FrOk (fun a => F a ∨ a = D) H' M' ∧ TupS K H H' ∧ Frm F H H' M' ∧ TupS K H1 H' ∧ dcGo T g wt wk wv (wipeD ρ vs) fin (T.items.drop i) acc M', ⟨T.items.length, rfl, Nat.zero_le _, kd.emp, M1, ?_, emp_rep kd hD, ?_, r1.more hD, fun a ha => ?_, t1.trans (.new hD), f1.trans (fr1.more hD), .new hD, q1⟩, ?_⟩
  · cases kd <;> exact ⟨_, rfl⟩
  · cases kd <;> exact Nat.le_refl _
  · rcases ha with ha | rfl
    · exact ⟨by rw [upd_ne (nF a ha)]; exact (fr1 a ha).1, (fr1 a ha).2⟩
    · exact ⟨⟨_, upd_same⟩, r1.none hD⟩
  · rintro i m H2 ⟨rfl, hi, acc, M2, ia, eD, la, r2, fr2, t2, f2, tt2, q2⟩
    by_cases hlt : i < T.items.length
    · rw [List.drop_eq_getElem_cons hlt] at q2
      unfold dcGo at q2
      obtain ⟨hk, ρ1, ea, q2⟩ := q2
      obtain ⟨go, yl⟩ := (it H2 M2 tt2 r2 hk i).1 hlt
      refine .inr ⟨go, fun H' => ∃ acc M', kd.is acc ∧ RepO K H' D acc ∧ dlen acc ≤ i + 1 ∧ RepM K H' M' ∧ FrOk (fun a => F a ∨ a = D) H' M' ∧ TupS K H H' ∧ Frm F H H' M' ∧ TupS K H1 H' ∧ dcGo T g wt wk wv (wipeD ρ vs) fin (T.items.drop (i + 1)) acc M', fun H' ⟨acc, M', h1, h2, h3, h4, h5, h6, h7, h8, h9⟩ => ⟨T.items.length - (i + 1), by omega, rfl, hlt, acc, M', h1, h2, h3, h4, h5, h6, h7, h8, h9⟩, fun x H3 hy => ?_⟩
      obtain ⟨d, ed, t3, k3, r3, p3⟩ := yl x H3 hy
      rw [List.getElem?_eq_getElem hlt] at ed
      cases ed
      have f3 : Frm (fun a => F a ∨ a = D) H2 H3 M2 := .of_same fr2 k3
      have fr3 := fr2.next f3
      have s3 : Stt K H3 (L2.wipe σ vs) (wipeD ρ vs) M2 (fun a => F a ∨ a = D) := by
        refine ⟨?_, r3, fr3⟩
        have e := s.rs.wipe vs
        exact ⟨e.1, fun i d h => let ⟨v, e1, e2⟩ := e.2 i d h; ⟨v, e1, e2.stay (t2.trans t3)⟩⟩
      refine ⟨_, wipeD ρ vs, ρ1, M2, _, p3, s3, ea, fun σ2 o2 s2 => ⟨wipe_off (o2.mono hg), ρ1, M2, _, _, s2, q2, fun b M4 H4 q4 t4 f4 r4 => ?_⟩⟩
      have e4 : RepO K H4 D acc := eD.stay (t3.trans t4) (by rw [(f4 D (.inr rfl)).1, (f3 D (.inr rfl)).1])
      have F4 : Frm F H H4 M4 := f2.trans (Frm.trans (M1 := M2) (fun a ha => f3 a (.inl ha)) fun a ha => f4 a (.inl ha))
      cases b with
      | false =>
        rw [if_neg Bool.false_ne_true] at q4
        show if false = true then _ else _
        rw [if_neg Bool.false_ne_true]
        exact ⟨acc, M4, ia, e4, by omega, r4, fr3.next f4, (t2.trans t3).trans t4, F4, (tt2.trans t3).trans t4, q4⟩
      | true =>
        rw [if_pos rfl] at q4
        show if true = true then _ else _
        rw [if_pos rfl]
        refine ⟨ρ1, M4, _, _, s2.next t4 f4 r4, q4, fun kd' M5 y H5 q5 t5 f5 r5 p5 => ⟨ρ1, M5, _, _, (s2.next t4 f4 r4).next t5 f5 r5, q5, fun vd M6 z H6 q6 t6 f6 r6 p6 => ?_⟩⟩
        obtain ⟨acc', ep, q6⟩ := q6
        have e6 : RepO K H6 D acc := e4.stay (t5.trans t6) (by rw [(f6 D (.inr rfl)).1, (f5 D (.inr rfl)).1])
        have n6 : M6 D = none := (f6 D (.inr rfl)).2
        obtain ⟨u, pt, e7, ia', la'⟩ := put_rep kd ia e6 ep (p5.stay t6) p6 (by omega)
        have tl : TupS K H6 (upd H6 D u) := .at_ e6.notup
        have T6 := (t3.trans t4).trans (t5.trans t6)
        refine ⟨_, pt, acc', M6, ia', e7, by omega, r6.offO n6 e6, fun a ha => ?_, (t2.trans T6).trans tl, fun a ha => ?_, (tt2.trans T6).trans tl, q6⟩
        · rcases ha with ha | rfl
          · have := (((fr3.next f4).next f5).next f6) a (.inl ha)
            exact ⟨by rw [upd_ne (nF a ha)]; exact this.1, this.2⟩
          · exact ⟨⟨_, upd_same⟩, n6⟩
        · have e := ((F4.trans fun a ha => f5 a (.inl ha)).trans fun a ha => f6 a (.inl ha)) a ha
          exact ⟨by rw [upd_ne (nF a ha)]; exact e.1, e.2⟩
    · have e : i = T.items.length := by omega
      subst e
      rw [List.drop_length] at q2
      unfold dcGo at q2
      obtain ⟨hk, q2⟩ := q2
      refine .inl ⟨(it H2 M2 tt2 r2 hk _).2 rfl, ?_⟩
      subst hfin
      have n2 : M2 D = none := (fr2 D (.inr rfl)).2
      refine gg _ _ _ H2 (q2 D n2) t2 (fun a ha => ⟨(f2 a ha).1, by rw [up_ne (nF a ha)]; exact (f2 a ha).2⟩) (fun a o ea => ?_) rfl
      by_cases ha : a = D
      · subst ha; rw [up_same] at ea; cases ea; exact eD
      · rw [up_ne ha] at ea; exact r2 a o ea
section
variable {X : Cx} {pos : Pos}
theorem pd_dc (kd : DcK) (okd : kd.ok X) (hu : Ru X) {kx vx tg iter : Expr} {ifs : List Expr} {scope : Scope} {own : List (Str × Nat)} {wi : WI} {g : Tg} {wt : WT} {wk wv : WE} (hc : X.calm = true) (hN : X.N.Nodup) (hi : PI X tg iter (iD X.K wi)) (ok : BlkOk X.N X.env.scope scope own)
    (hg : ∀ (s : Shared) (H : Hp) (C : Addr) (cl : List (Str × Addr)) (fp : List Addr), PG (X.blk s H scope (compEnvC scope cl C X.env) fp) tg (gD X.K g)) (ht : ∀ (s : Shared) (H : Hp) (C : Addr) (cl : List (Str × Addr)) (fp : List Addr), PTs (X.blk s H scope (compEnvC scope cl C X.env) fp) ifs (tDT X.K wt))
    (hk : ∀ (s : Shared) (H : Hp) (C : Addr) (cl : List (Str × Addr)) (fp : List Addr), PE (X.blk s H scope (compEnvC scope cl C X.env) fp) kx (tD X.K wk))
    (he : ∀ (s : Shared) (H : Hp) (C : Addr) (cl : List (Str × Addr)) (fp : List Addr), PE (X.blk s H scope (compEnvC scope cl C X.env) fp) vx (tD X.K wv)) (hs : ∀ x, foldedSetIterable iter X.env x = pure x) (hgs : ∀ j ∈ g.slots, j ∈ own.map (·.2)) :
    PE X (.DictComp kx vx [⟨tg, iter, ifs, 0⟩] scope pos) (tD X.K (wDc kd.emp wi g wt wk wv (own.map (·.2)))) := (pe_dcx (emp_ok kd okd) (putR kd okd hu) hc hN hi ok hg ht hk he hs).imp fun _ _ _ h => dc_of kd hgs h
end
end DL

set_option Elab.async false
set_option linter.all false
set_option maxRecDepth 100000
set_option maxHeartbeats 4000000
/-! DLy: dicts as data: {}, in, d[k], d[k] = v, sorted(d); o.m(..). -/
namespace DL
open PySem PySem.Spec PyProof.Rows L2
variable {K : PySem.W.Frag}
def kD : Key → D
  | .inl i => .int i
  | .inr x => .str x
def keyT (ks : List Key) : D := .tup (ks.map kD)
theorem kD_rep {H : Hp} (k : Key) : Rep K H (kD k) (kV k) := by cases k <;> rfl
theorem Reps.keysR {H : Hp} : ∀ ks : List Key, Reps K H (ks.map kD) (ks.map kV)
  | [] => .nil
  | k :: ks => .cons (kD_rep k) (Reps.keysR ks)
theorem keyT_rep {H : Hp} {ks : List Key} {b : Addr} (h : SqT K H b (ks.map kV)) : Rep K H (keyT ks) (.ref b) := by
  unfold keyT Rep
  exact ⟨b, _, rfl, h, .keysR ks⟩
theorem keyD_kD (k : Key) : keyD (kD k) = some k := by cases k <;> rfl
theorem keysD_map : ∀ ks : List Key, keysD (ks.map kD) = some ks
  | [] => rfl
  | k :: ks => by
    show keysD (kD k :: ks.map kD) = _
    unfold keysD
    rw [keyD_kD, keysD_map ks]
theorem TPs.keyReps {H : Hp} : ∀ {kvs : List (List Key × D)} {xs : List (List Key × Addr × V)}, TPs K H kvs xs → Reps K H (kvs.map fun p => keyT p.1) (xs.map fun x => V.ref x.2.1)
  | [], _, h => by unfold TPs at h; subst h; exact .nil
  | (k, d) :: ds, _, h => by
    unfold TPs at h
    obtain ⟨b, v, r, rfl, h1, h2, h3⟩ := h
    exact .cons (keyT_rep h1) h3.keyReps
section
variable {X : Cx} {a b : Expr} {wa wb : WE} {pos : Pos}
/-! ### {} -/
def wDnew (kd : DcK) : WE := fun _ M Q => ∀ p, M p = none → Q (.ref p) (up M p kd.emp)
theorem pd_dnew (kd : DcK) (okd : kd.ok X) : PE X (.Dict [] [] pos) (tD X.K (wDnew kd)) := ⟨fun pins s σ H Q I h => by
  obtain ⟨ρ, M, F, Q0, st, q, g⟩ := h
  have hp : H s.heap.objs.size = none := I.hok.fresh (Nat.le_refl _)
  refine wpAny_Dict_empty ⟨.ref s.heap.objs.size, _, I.laid (a := s.heap.objs.size) (o := kd.u0 s.heap.objs.size) (t' := s.toks) (fun _ _ q => Heap.get?_push_of_some _ q) (Nat.le_refl _) (emp_ok kd okd _ s.heap I.big), rfl, ?_⟩
  exact g _ _ _ _ (q _ (st.rm.none hp)) (.new hp) (st.fr.new hp _) (st.rm.new hp (emp_rep kd hp)) rfl⟩
/-! ### k in d -/
def hasK {κ β : Type} [DecidableEq κ] (kvs : List (κ × β)) (k : κ) : Bool := kvs.any fun p => decide (p.1 = k)
theorem hasK_iff {κ β : Type} [DecidableEq κ] {kvs : List (κ × β)} {k : κ} : hasK kvs k = true ↔ k ∈ kvs.map Prod.fst := by
  unfold hasK
  rw [List.any_eq_true, List.mem_map]
  constructor
  · rintro ⟨p, hp, e⟩; exact ⟨p, hp, of_decide_eq_true e⟩
  · rintro ⟨p, hp, e⟩; exact ⟨p, hp, decide_eq_true e⟩
theorem hasK_keys {κ β γ : Type} [DecidableEq κ] {xs : List (κ × β)} {ys : List (κ × γ)} (h : xs.map Prod.fst = ys.map Prod.fst) (k : κ) : hasK xs k = hasK ys k := by
  rw [Bool.eq_iff_iff, hasK_iff, hasK_iff, h]
theorem val_keys {κ : Type} [DecidableEq κ] : ∀ {kvs : List (κ × V)} {k : κ}, (valV kvs k).isSome = hasK kvs k
  | [], k => by simp [valV, hasK]
  | (j, v) :: kvs, k => by
    have ih := val_keys (kvs := kvs) (k := k)
    unfold valV hasK at ih ⊢
    rw [List.find?_cons, List.any_cons]
    by_cases h : j = k
    · subst h; simp
    · simp only [h, decide_false, Bool.false_or]
      exact ih
theorem at_keys {xs : List (List Key × Addr × V)} {ys : List (List Key × Addr × Value)} (f : Paired (fun (p : List Key × Addr × V) (q : List Key × Addr × Value) => p.1 = q.1 ∧ p.2.1 = q.2.1 ∧ RelV p.2.2 q.2.2) xs ys) (k : List Key) :
    (∀ v, (xs.find? fun x => decide (x.1 = k)).map (fun x => x.2.2) = some v → ∃ p, atKey ys k = some p ∧ RelV v p.2) ∧ (atKey ys k).isSome = hasK xs k := by
  induction f with
  | nil => exact ⟨fun v e => (by cases e), by simp [atKey, hasK]⟩
  | @cons x y xs ys h t ih =>
    unfold atKey hasK at ih ⊢
    rw [List.find?_cons, List.find?_cons, List.any_cons]
    by_cases e : x.1 = k
    · have e' : y.1 = k := h.1 ▸ e
      rw [e, e']
      simp only [decide_true]
      refine ⟨fun v q => ⟨y.2, rfl, ?_⟩, by simp⟩
      obtain rfl : x.2.2 = v := Option.some.inj q
      exact h.2.2
    · have e' : ¬ y.1 = k := h.1 ▸ e
      simp only [e, e', decide_false, Bool.false_or]
      exact ih
def inX (P : Program) (w : World) (neg : Bool) : D → D → Mp → DQ → Prop := fun x y M Q => ∃ p, y = .ref p ∧
  ((∃ kvs k, M p = some (.dK kvs) ∧ keyD x = some k ∧ Q (.bl (negB neg (hasK kvs k))) M) ∨ ∃ kvs ds k, M p = some (.dX P w kvs) ∧ x = .tup ds ∧ keysD ds = some k ∧ Q (.bl (negB neg (hasK kvs k))) M)
theorem od_inX (P : Program) (w : World) (eP : P = X.prog) (ew : w = X.w) (neg : Bool) (hu : Ru X) : OpR X (compareOp (if neg then .NotIn else .In)) (rD X.K (inX P w neg)) := fun pins s σ H x y v u Q I rx ry h => by
  subst eP ew
  have hu1 : X.A.units + 1 < cLine := by have := hu; omega
  obtain ⟨dx, dy, M, F, Q0, r1, r2, m, fr, ⟨p, rfl, h⟩, g⟩ := h
  cases r2
  cases (show u = Value.ref p from ry)
  rcases h with ⟨kvs, k, e, ek, hq⟩ | ⟨kvs, ds, k, e, rfl, ek, hq⟩
  · obtain ⟨vs, e1, ps⟩ := m _ _ e
    obtain rfl := keyD_rep ek r1
    have q := g _ M _ H hq (.refl _) fr.frm m rfl
    have ev : (valV vs k).isSome = hasK kvs k := by rw [val_keys]; exact hasK_keys ps.keys.symm k
    cases neg with
    | false => exact d_in hu1 I (.k e1) rx fun s' I' => ⟨.bl _, H, I', rfl, by rw [ev]; exact q⟩
    | true => exact d_notIn hu1 I (.k e1) rx fun s' I' => ⟨.bl _, H, I', rfl, by rw [ev]; exact q⟩
  · obtain ⟨xs, e1, ps⟩ := m _ _ e
    have q := g _ M _ H hq (.refl _) fr.frm m rfl
    unfold Rep at r1
    obtain ⟨b, vs, rfl, sq, rs⟩ := r1
    have evs := keysD_reps ek rs
    subst evs
    cases (show v = Value.ref b from rx)
    obtain ⟨hsm, ys, f, dd⟩ := td_dict I e1 ps.sq
    have ea : (atKey ys k).isSome = hasK kvs k := (at_keys f k).2.trans (hasK_keys ps.keys.symm k)
    cases neg with
    | false => exact wpAny_in_heap (tupleKind_room_in1 hu1) (key_sq I sq) hsm dd ⟨.bl _, H, I.tok _, rfl, by rw [ea]; exact q⟩
    | true => exact wpAny_notIn_heap (tupleKind_room_in1 hu1) (key_sq I sq) hsm dd ⟨.bl _, H, I.tok _, rfl, by rw [ea]; exact q⟩
/-! ### d[k] -/
theorem look_val {κ : Type} [DecidableEq κ] {H : Hp} : ∀ {ds : List (κ × D)} {vs : List (κ × V)} {k : κ} {d : D}, Pairs K H ds vs → (ds.find? fun p => decide (p.1 = k)).map (·.2) = some d → ∃ v, valV vs k = some v ∧ Rep K H d v
  | [], _, _, _, _, e => by cases e
  | (j, c) :: ds, _, k, d, h, e => by
    unfold Pairs at h
    obtain ⟨v, r, rfl, h1, h2⟩ := h
    rw [List.find?_cons] at e
    unfold valV
    rw [List.find?_cons]
    by_cases q : j = k
    · simp only [q, decide_true] at e ⊢
      cases e
      exact ⟨v, rfl, h1⟩
    · simp only [q, decide_false] at e ⊢
      exact look_val h2 e
theorem TPs.look {H : Hp} : ∀ {ds : List (List Key × D)} {xs : List (List Key × Addr × V)} {k : List Key} {d : D}, TPs K H ds xs → (ds.find? fun p => decide (p.1 = k)).map (·.2) = some d → ∃ v, (xs.find? fun x => decide (x.1 = k)).map (fun x => x.2.2) = some v ∧ Rep K H d v
  | [], _, _, _, _, e => by cases e
  | (j, c) :: ds, _, k, d, h, e => by
    unfold TPs at h
    obtain ⟨b, v, r, rfl, h0, h1, h2⟩ := h
    rw [List.find?_cons] at e ⊢
    by_cases q : j = k
    · simp only [q, decide_true] at e ⊢
      cases e
      exact ⟨v, rfl, h1⟩
    · simp only [q, decide_false] at e ⊢
      exact h2.look e
def atL {κ : Type} [DecidableEq κ] (kvs : List (κ × D)) (k : κ) : Option D := (kvs.find? fun p => decide (p.1 = k)).map (·.2)
def getX (P : Program) (w : World) : D → D → Mp → DQ → Prop := fun x y M Q => ∃ p, x = .ref p ∧
  ((∃ kvs k d, M p = some (.dK kvs) ∧ keyD y = some k ∧ atL kvs k = some d ∧ Q d M) ∨ ∃ kvs ds k d, M p = some (.dX P w kvs) ∧ y = .tup ds ∧ keysD ds = some k ∧ atL kvs k = some d ∧ Q d M)
theorem ix_getX (P : Program) (w : World) (eP : P = X.prog) (ew : w = X.w) (hu : Ru X) : IxR X (rD X.K (getX P w)) := fun value slice pins s σ H x y v u Q I rx ry h hs => by
  subst eP ew
  have hu1 : X.A.units + 1 < cLine := by have := hu; omega
  obtain ⟨dx, dy, M, F, Q0, r1, r2, m, fr, ⟨p, rfl, h⟩, g⟩ := h
  cases r1
  cases (show v = Value.ref p from rx)
  rcases h with ⟨kvs, k, d, e, ek, el, hq⟩ | ⟨kvs, ds, k, d, e, rfl, ek, el, hq⟩
  · obtain ⟨vs, e1, ps⟩ := m _ _ e
    obtain rfl := keyD_rep ek r2
    obtain ⟨v, ev, rv⟩ := look_val ps el
    obtain ⟨z, hd, us, rel, dd⟩ := dk_of I.hok e1
    exact tail_any dd.mapOf.typeIs slot_dict_getitem.lookup (d_getItem (A := X.A) hu1 I (by rw [← ev]; exact .k e1) ry fun w' s' I' rw' => ⟨v, H, I', rw', g d M v H hq (.refl _) fr.frm m rv⟩) hs
  · obtain ⟨xs, e1, ps⟩ := m _ _ e
    unfold Rep at r2
    obtain ⟨b, vs, rfl, sq, rs⟩ := r2
    have evs := keysD_reps ek rs
    subst evs
    cases (show u = Value.ref b from ry)
    obtain ⟨hsm, ys, f, dd⟩ := td_dict I e1 ps.sq
    obtain ⟨v, ev, rv⟩ := ps.look el
    obtain ⟨q, e2, rq⟩ := (at_keys f k).1 v ev
    exact tail_any dd.typeIs slot_dict_getitem.lookup (wpAny_getItem_heap (tupleKind_room_in1 hu1) (key_sq I sq) dd e2 ⟨v, H, I.tok _, rq, g d M v H hq (.refl _) fr.frm m rv⟩) hs
theorem pd_getX {P : Program} {w : World} (eP : P = X.prog) (ew : w = X.w) (hu : Ru X) (ha : PE X a (tD X.K wa)) (hb : PE X b (tD X.K wb)) (hs : PlainIx b) : PE X (.Subscript a b pos) (tD X.K (w2 (getX P w) wa wb)) :=
  (pe_ix (ix_getX P w eP ew hu) ha hb hs).imp fun _ _ _ h => two h
end
end DL

set_option Elab.async false
set_option linter.all false
set_option maxRecDepth 100000
set_option maxHeartbeats 4000000
/-! DLy2: d[k] = v; sorted(d), d a dict with tuples as keys. -/
namespace DL
open PySem PySem.Spec PyProof.Rows L2
variable {K : PySem.W.Frag}
def putL {κ : Type} [DecidableEq κ] (kvs : List (κ × D)) (k : κ) (d : D) : List (κ × D) := if hasK kvs k = true then kvs.map (fun p => if p.1 = k then (p.1, d) else p) else kvs ++ [(k, d)]
def putX (xs : List (List Key × Addr × V)) (k : List Key) (b : Addr) (v : V) : List (List Key × Addr × V) := if hasK xs k = true then xs.map (fun p => if p.1 = k then (p.1, p.2.1, v) else p) else xs ++ [(k, b, v)]
def dstore (z y : D) : MO → Option MO
  | .dK kvs => (keyD z).map fun k => .dK (putL kvs k y)
  | .dX P w kvs => match z with
    | .tup ds => (keysD ds).map fun k => .dX P w (putL kvs k y)
    | _ => none
  | _ => none
theorem TPs.mapK {H : Hp} {k : List Key} {d : D} {v : V} (hv : Rep K H d v) : ∀ {ds : List (List Key × D)} {xs : List (List Key × Addr × V)}, TPs K H ds xs → TPs K H (ds.map fun p => if p.1 = k then (p.1, d) else p) (xs.map fun p => if p.1 = k then (p.1, p.2.1, v) else p)
  | [], _, h => by unfold TPs at h; subst h; exact rfl
  | (j, c) :: ds, _, h => by
    unfold TPs at h
    obtain ⟨b, u, r, rfl, h0, h1, h2⟩ := h
    have ih := TPs.mapK (k := k) hv h2
    rw [List.map_cons, List.map_cons]
    by_cases e : j = k
    · subst e
      simp only [if_true]
      exact ⟨b, v, _, rfl, h0, hv, ih⟩
    · simp only [e, if_false]
      exact ⟨b, u, _, rfl, h0, h1, ih⟩
theorem putK_hasK {κ : Type} [DecidableEq κ] (vs : List (κ × V)) (k : κ) (v : V) : putK vs k v = if hasK vs k = true then vs.map (fun kv => if kv.1 = k then (kv.1, v) else kv) else vs ++ [(k, v)] := rfl
theorem Pairs.putD {κ : Type} [DecidableEq κ] {H : Hp} {k : κ} {d : D} {v : V} {ds : List (κ × D)} {vs : List (κ × V)} (h : Pairs K H ds vs) (hv : Rep K H d v) : Pairs K H (putL ds k d) (putK vs k v) := by
  rw [putK_hasK]
  unfold putL
  rw [hasK_keys h.keys k]
  split
  · exact h.mapK hv
  · exact Pairs.more hv h
theorem TPs.put {H : Hp} {k : List Key} {b : Addr} {d : D} {v : V} {ds : List (List Key × D)} {xs : List (List Key × Addr × V)} (h : TPs K H ds xs) (hb : SqT K H b (k.map kV)) (hv : Rep K H d v) : TPs K H (putL ds k d) (putX xs k b v) := by
  unfold putL putX
  rw [hasK_keys h.keys k]
  split
  · exact h.mapK hv
  · exact TPs.more hb hv h
theorem paired_put {xs : List (List Key × Addr × V)} {ys : List (List Key × Addr × Value)} {k : List Key} {b : Addr} {v : V} {u : Value} (rv : RelV v u) (f : Paired (fun (p : List Key × Addr × V) (q : List Key × Addr × Value) => p.1 = q.1 ∧ p.2.1 = q.2.1 ∧ RelV p.2.2 q.2.2) xs ys) :
    Paired (fun (p : List Key × Addr × V) (q : List Key × Addr × Value) => p.1 = q.1 ∧ p.2.1 = q.2.1 ∧ RelV p.2.2 q.2.2) (putX xs k b v) (storedH ys k b u) := by
  unfold putX storedH
  rw [(at_keys f k).2]
  split
  · induction f with
    | nil => exact .nil
    | @cons x y xs ys h t ih =>
      rw [List.map_cons, List.map_cons]
      refine .cons ?_ (by
        rename_i hh
        cases q : hasK xs k with
        | true => exact ih q
        | false =>
          have e : ∀ p ∈ xs, ¬ p.1 = k := fun p hp e => by
            have : hasK xs k = true := hasK_iff.mpr (e ▸ List.mem_map_of_mem hp)
            rw [q] at this; cases this
          clear ih hh
          induction t with
          | nil => exact .nil
          | @cons x2 y2 xs ys h2 t2 ih2 =>
            have n1 : ¬ x2.1 = k := e x2 List.mem_cons_self
            have n2 : ¬ y2.1 = k := h2.1 ▸ n1
            have q2 : hasK xs k = false := by
              cases q3 : hasK xs k with
              | false => rfl
              | true => unfold hasK at q q3; rw [List.any_cons, q3] at q; simp at q
            rw [List.map_cons, List.map_cons]
            refine .cons ?_ (ih2 q2 fun p hp => e p (List.mem_cons_of_mem _ hp))
            unfold putAt
            simp only [n1, n2, if_false]
            exact h2)
      unfold putAt
      by_cases e : x.1 = k
      · have e' : y.1 = k := h.1 ▸ e
        simp only [e, e', if_true]
        exact ⟨trivial, h.2.1, rv⟩
      · have e' : ¬ y.1 = k := h.1 ▸ e
        simp only [e, e', if_false]
        exact h
  · exact f.snoc ⟨rfl, rfl, rv⟩
section
variable {X : Cx} {a b i : Expr} {wa wb wi : WE} {pos : Pos}
def DcK.PtS (K : PySem.W.Frag) : DcK → Addr → V → V → Hp → Hp → Prop
  | .k => fun D y z H H' => ∃ kvs k, y = kV k ∧ H D = some (.dK kvs) ∧ kvs.length < sizeLine ∧ H' = upd H D (.dK (putK kvs k z))
  | .t P w => fun D y z H H' => ∃ xs k b, y = .ref b ∧ H D = some (.ext (TD P w D xs)) ∧ SqT K H b (k.map kV) ∧ (∀ q ∈ xs, SqT K H q.2.1 (q.1.map kV)) ∧ xs.length < sizeLine ∧ H' = upd H D (.ext (TD P w D (putX xs k b z)))
def rSetX (K : PySem.W.Frag) (kd : DcK) : TSet := fun o i v H Q => ∃ p H', o = .ref p ∧ kd.PtS K p i v H H' ∧ Q H'
theorem set_X (kd : DcK) (okd : kd.ok X) (hu : Ru X) : PSet X (rSetX X.K kd) := fun pins s σ H o i v ov iv u Q I ro ri rv h => by
  have hu1 : X.A.units + 1 < cLine := by have := hu; omega
  obtain ⟨p, H', rfl, pt, q⟩ := h
  cases (show ov = Value.ref p from ro)
  cases kd with
  | k =>
    obtain ⟨kvs, k, rfl, e, hz, rfl⟩ := pt
    exact d_setItem hu1 I (.inl ⟨kvs, k, e, rfl, hz, rfl⟩) ri rv fun s' I' => ⟨_, I', q⟩
  | t P w =>
    obtain ⟨rfl, rfl⟩ := okd
    obtain ⟨xs, k, b, rfl, e, sq, hs, hz, rfl⟩ := pt
    cases (show iv = Value.ref b from ri)
    obtain ⟨hsm, ys, f, dd⟩ := td_dict I e hs
    obtain ⟨f1, f2, _⟩ := fit_keys f
    refine wpAny_setItem_heap (tupleKind_room_in1 hu1) (key_sq I sq) dd (fun h' dd' hs' => ⟨_, ?_, q⟩) (by rw [← f2]; exact Nat.le_of_lt hz)
    obtain ⟨q', es, ep, hq, h2, h3, h4, _, h5⟩ := dd'
    exact d_write I (by rw [e]; exact True.intro) hs' ⟨q', hq⟩ (td_ok ⟨hsm, _, paired_put rv f, q', es, ep, hq, h2, h3, h4, h5⟩)
def wSetK (kd : DcK) (wo wi wv : WE) : WS := fun D0 ρ M => wv ρ M fun y M1 => wo ρ M1 fun x M2 => wi ρ M2 fun z M3 => ∃ p o o', x = .ref p ∧ M3 p = some o ∧ kd.is o ∧ dlen o < sizeLine ∧ dstore z y o = some o' ∧ D0.nx ρ (up M3 p o')
theorem psd_setK (kd : DcK) (okd : kd.ok X) (hu : Ru X) {pos' : Pos} (ho : PE X a (tD X.K wa)) (hi : PE X i (tD X.K wi)) (hv : PE X b (tD X.K wb)) (hs : swapsWithSole [.Subscript a i pos'] b pos.line X.env = pure false) (hw : swappedStores [.Subscript a i pos'] b X.env = pure none) (hns : notSlice i = true) :
    PS X (.Assign [.Subscript a i pos'] b pos) (tDS X.K (wSetK kd wa wi wb)) := (ps_asg hv (pg_sub ho hi (set_X kd okd hu) (by intro v; cases i <;> first | rfl | cases hns)) hs hw rfl).imp fun D σ H => by
  rintro ⟨ρ, M, F, D0, s, q, g⟩
  refine ⟨ρ, M, F, _, s, q, fun y M1 v H1 q1 t1 f1 r1 p1 => ⟨ρ, M1, F, _, s.next t1 f1 r1, q1, fun x M2 u H2 q2 t2 f2 r2 p2 => ⟨ρ, M2, F, _, (s.next t1 f1 r1).next t2 f2 r2, q2, fun z M3 w H3 q3 t3 f3 r3 p3 => ?_⟩⟩⟩
  obtain ⟨p, o, o', rfl, e, ko, hz, es, q3⟩ := q3
  cases p2
  have p1' := p1.stay (t2.trans t3)
  have eO := r3 _ _ e
  have fr3 := ((s.fr.next f1).next f2).next f3
  have key : ∃ u, kd.PtS X.K p w v H3 (upd H3 p u) ∧ RepO X.K (upd H3 p u) p o' := by
    have nt := eO.notup
    have ts : ∀ u, TupS X.K H3 (upd H3 p u) := fun u => .at_ nt
    cases kd with
    | k =>
      obtain ⟨kvs, rfl⟩ := ko
      obtain ⟨vs, e1, ps⟩ := eO
      cases ek : keyD z with
      | none => simp only [dstore, ek] at es; cases es
      | some k =>
        simp only [dstore, ek] at es
        cases es
        obtain rfl := keyD_rep ek p3
        exact ⟨_, ⟨vs, k, rfl, e1, by rw [← ps.length]; exact hz, rfl⟩, _, upd_same, (ps.putD p1').stay (ts _)⟩
    | t P w' =>
      obtain ⟨kvs, rfl⟩ := ko
      obtain ⟨xs, e1, ps⟩ := eO
      cases z <;> (try (simp only [dstore] at es; cases es; done))
      rename_i ds
      cases ek : keysD ds with
      | none => simp only [dstore, ek] at es; cases es
      | some k =>
        simp only [dstore, ek] at es
        cases es
        unfold Rep at p3
        obtain ⟨b, vs, rfl, sq, rs⟩ := p3
        have evs := keysD_reps ek rs
        subst evs
        have el : kvs.length = xs.length := by have := congrArg List.length ps.keys; simpa using this
        exact ⟨_, ⟨xs, k, b, rfl, e1, sq, ps.sq, by rw [← el]; exact hz, rfl⟩, _, upd_same, (ps.put sq p1').stay (ts _)⟩
  obtain ⟨u', pt, rO⟩ := key
  have tt : TupS X.K H3 (upd H3 p u') := .at_ eO.notup
  have ff := fr3.put (u := u') e o'
  refine ⟨p, _, rfl, pt, ?_⟩
  exact g.nx ρ _ σ _ q3 (((t1.trans t2).trans t3).trans tt) (((f1.trans f2).trans f3).trans ff) ((((s.next t1 f1 r1).next t2 f2 r2).next t3 f3 r3).next tt ff (r3.put e rO))
end
end DL

set_option Elab.async false
set_option linter.all false
set_option maxRecDepth 100000
set_option maxHeartbeats 4000000
/-! DLy3: sorted(d), d a dict with tuples as keys; o.m(..), m an own method. -/
namespace DL
open PySem PySem.Spec PyProof.Rows L2
variable {K : PySem.W.Frag}
mutual
theorem reads_in {h : Heap} : ∀ {v : Value} {d : PyData} {as : List Addr}, Reads h v d as → ∀ b ∈ as, ∃ o, h.get? b = some o
  | _, _, _, .none, _, hb => by cases hb
  | _, _, _, .bool _, _, hb => by cases hb
  | _, _, _, .int _ _, _, hb => by cases hb
  | _, _, _, .str _ _, _, hb => by cases hb
  | _, _, _, .list h1 h2 h3 h4, b, hb => by
    rcases List.mem_cons.mp hb with rfl | hb
    · exact ⟨_, h1⟩
    · exact readsAll_in h4 b hb
  | _, _, _, .tuple h1 h2 h3 h4, b, hb => readsAll_in h4 b hb
  | _, _, _, .dict h1 h2 h3 h4 h5, b, hb => by
    rw [List.cons_append] at hb
    rcases List.mem_cons.mp hb with rfl | hb
    · exact ⟨_, h1⟩
    · rcases List.mem_append.mp hb with hb | hb
      · exact readsAll_in h4 b hb
      · exact readsAll_in h5 b hb
theorem readsAll_in {h : Heap} : ∀ {vs : List Value} {ds : List PyData} {as : List Addr}, ReadsAll h vs ds as → ∀ b ∈ as, ∃ o, h.get? b = some o
  | _, _, _, .nil, _, hb => by cases hb
  | _, _, _, .cons h1 h2, b, hb => by
    rcases List.mem_append.mp hb with hb | hb
    · exact reads_in h1 b hb
    · exact readsAll_in h2 b hb
end
theorem plain_keys : ∀ ks : List Key, plains (ks.map kD) = true
  | [] => rfl
  | k :: ks => by
    show (plain (kD k) && plains (ks.map kD)) = true
    rw [plain_keys ks]
    cases k <;> rfl
theorem plains_keyT : ∀ kvs : List (List Key × D), plains (kvs.map fun p => keyT p.1) = true
  | [] => rfl
  | p :: kvs => by
    show (plain (keyT p.1) && plains (kvs.map fun p => keyT p.1)) = true
    rw [plains_keyT kvs]
    show (plains (p.1.map kD) && true) = true
    rw [plain_keys]; rfl
theorem vals_keys {xs : List (List Key × Addr × V)} {ys : List (List Key × Addr × Value)} (f : Paired (fun (p : List Key × Addr × V) (q : List Key × Addr × Value) => p.1 = q.1 ∧ p.2.1 = q.2.1 ∧ RelV p.2.2 q.2.2) xs ys) : Vals (xs.map fun x => V.ref x.2.1) (ys.map fun x => Value.ref x.2.1) := by
  induction f with
  | nil => exact .nil
  | cons h t ih => exact .cons (by show _ = _; rw [h.2.1]) ih
section
variable {X : Cx}
def sortXS : Spec := fun ds M Q => ∃ a P w kvs, ds = [.ref a] ∧ M a = some (.dX P w kvs) ∧ PySem.W.AllAlike ((kvs.map fun p => keyT p.1).map py) ∧ (∀ p ∈ kvs, p.1 ≠ []) ∧ (∀ p ∈ kvs, (py (keyT p.1)).depth ≤ 60) ∧ kvs.length ≤ sizeLine ∧
  ∀ p, M p = none → Q (.ref p) (up M p (.lst (sortD (kvs.map fun p => keyT p.1))))
theorem cd_sortX (hc : X.calm = true) (hu : Ru X) : CallR X (.builtin "sorted") (rDL X.K sortXS) := fun pins s σ H xs us Q I rv hh => by
  obtain ⟨ds, M, F, Q0, r1, m, fr, ⟨a, P, w, kvs, rfl, e, al, ne, dp, zl, q⟩, g⟩ := hh
  obtain ⟨v, rfl, rr⟩ := r1.one
  cases rr
  obtain ⟨u, rfl, ru⟩ := vals1 rv
  obtain rfl : u = Value.ref a := ru
  obtain ⟨xs, e1, ps⟩ := m _ _ e
  obtain ⟨⟨hsm, ys, f, o, es, ep, h1, h2, h3, h4, h5⟩, _, _⟩ := (show ObjOk X.prog X.w H s.heap a (.ext (TD P w a xs)) from I.hok a _ e1)
  obtain ⟨_, fl, _⟩ := fit_keys f
  have el : kvs.length = xs.length := by have := congrArg List.length ps.keys; simpa using this
  have l1 : es.size = ys.length := size_of_entries h4
  refine Calls.call_function_entry PyProof.Rows.kind_sorted PyProof.Rows.plain_sorted PyProof.Rows.entry_sorted (PyProof.Rows.args_sorted1 _) ?_
  unfold Builtin.«sorted»
  refine wpAny_bind (m := checkCount "sorted" 1 1 _) (wpAny_pure ?_)
  refine wpAny_bind (PySem.W.kdu_collect (A := X.A.in1) (kdl_raw hsm h2 h3) (I.ok.hd hc) h1 (by omega) fun h' tk acc hk hacc => ?_)
  have hal : acc.toList.length = ys.length := by rw [Array.length_toList, hacc.1]; exact l1
  have ea : acc.toList = ys.map fun x => Value.ref x.2.1 := by
    apply List.ext_getElem?
    intro j
    rw [List.getElem?_map]
    cases hj : acc.toList[j]? with
    | none =>
      have z1 := List.getElem?_eq_none_iff.mp hj
      rw [List.getElem?_eq_none (by omega)]
      rfl
    | some v =>
      obtain ⟨en, hen, hv⟩ := hacc.2 j v (by rw [← Array.getElem?_toList]; exact hj)
      have qe := entry_at h4 j
      rw [hen] at qe
      cases hb : ys[j]? with
      | none => rw [hb] at qe; cases qe
      | some b =>
        rw [hb] at qe
        have e2 : en = entryOfKey (tupleKind (mixKind P w)) b := Option.some.inj qe
        rw [hv, e2]
        rfl
  have rvs : Vals (xs.map fun x => V.ref x.2.1) acc.toList := by rw [ea]; exact vals_keys f
  have I1 : Inv X pins σ H { s with heap := h', toks := tk } := I.kept hk
  obtain ⟨w1, w2⟩ := each_of I1 ps.keyReps rvs (plains_keyT kvs)
  have hz : acc.toList.length ≤ sizeLine := by omega
  refine wpAny_bind (wpAny_newList ?_ hz)
  have hoL : (h'.push (seqObj "list" acc.toList.toArray 0)).get? h'.objs.size = some (seqObj "list" acc.toList.toArray 0) := Heap.get?_push_size _ rfl
  show wpAny _ _ _ _ _ { s with heap := h'.push (seqObj "list" acc.toList.toArray 0), toks := tk }
  have er : PySem.W.EachIs (fun (v : Value) (d : D) => ∃ as, Reads (h'.push (seqObj "list" acc.toList.toArray 0)) v (py d) as ∧ h'.objs.size ∉ as) acc.toList (kvs.map fun p => keyT p.1) := w2.mono fun v d h => by
    obtain ⟨as, r⟩ := h
    refine ⟨as, PyProof.Rows.Reads.keeps (fun b o e => Heap.get?_push_of_some _ e) r, fun hm => ?_⟩
    obtain ⟨ob, eb⟩ := reads_in r _ hm
    exact absurd (Heap.lt_size eb) (Nat.lt_irrefl _)
  have hk0 : PySem.W.Sortable ((kvs.map fun p => keyT p.1).map py) := .inl fun d hd => by
    obtain ⟨x, hx, rfl⟩ := List.mem_map.mp hd
    obtain ⟨p, hp, rfl⟩ := List.mem_map.mp hx
    have := ne p hp
    cases hk : p.1 with
    | nil => exact absurd hk this
    | cons k ks => exact ⟨py (kD k), pys (ks.map kD), by simp only [keyT, List.map_cons, py, pys]⟩
  have hu0 : ∀ b, b ∈ (kvs.map fun p => keyT p.1) → X.A.in1.units + 1 + (py b).depth < cLine := fun b hb => by
    obtain ⟨p, hp, rfl⟩ := List.mem_map.mp hb
    have := hu
    have := dp p hp
    show X.A.units + 1 + 1 + _ < cLine
    omega
  refine wpAny_bind (wpAny_holding (PySem.W.list_sort_data (s := { s with heap := h'.push (seqObj "list" acc.toList.toArray 0), toks := tk }) (R := fun (u : Value) (d : D) => ∃ v, RelV v u ∧ Rep X.K H d v) (enc := py) (bs := kvs.map fun p => keyT p.1) hoL w1 er al hk0 (by rw [List.length_map]; exact zl) hu0 fun out hlen ho => ?_))
  · obtain ⟨vs', y1, y2⟩ := of_each ho
    have hn : H h'.objs.size = none := I1.hok.fresh (Nat.le_refl _)
    obtain ⟨c, hc'⟩ := PyProof.Rows.sortedHeap_at (vs := acc.toList) (out := out.toArray) hoL
    refine wpAny_pure ⟨_, rfl, .ref h'.objs.size, upd H h'.objs.size (.lst vs'), I1.laid (t' := tk) (fun b u e => ?_) (Nat.le_refl _) ⟨by rw [y1.length, hlen, List.length_map]; exact zl, out, c, y1, hc'⟩, rfl, g _ _ _ _ (q _ (m.none hn)) (.new hn) (fr.new hn _) (m.new hn ⟨vs', upd_same, y2.stay (.new hn)⟩) rfl⟩
    have hb : b < h'.objs.size := Heap.lt_size e
    rw [PyProof.Rows.sortedHeap_old (Nat.ne_of_lt hb) (by rw [size_push']; exact Nat.lt_succ_of_lt hb)]
    exact Heap.get?_push_of_some _ e
/-! ### o.m(..) -/
structure MethM (k : Co) (C : Addr) (m : Str) (S : Spec) : Prop where
  cl : Cls k.K C
  ex : ∃ (n : Nat) (f : Addr) (fd : FuncData) (ps : List Str), FnOk k.prog k.w k.K k.mg k.base CX0 n f fd ps (spD k.K S) ∧ Room n k.A ∧ Binds k.K fd ps [] ∧ Meth k.K C m f
def wMeth (C : Addr) (m : Str) (S : Spec) (wo : WE) (u : WA) : WE := fun ρ M Q => wo ρ M fun x M1 => ∃ a fs, x = .ref a ∧ M1 a = some (.ins C fs) ∧ fs.lookup m = none ∧ u ρ M1 fun ds M2 => S (x :: ds) M2 Q
theorem meth_of {C : Addr} {m : Str} {S : Spec} {wo : WE} {u : WA} {σ : L2.St} {H : Hp} {Q : VK} (h : tD K (wMeth C m S wo u) σ H Q) : tMeth C m (spD K S) [] E0 (tD K wo) (tDA K u) σ H Q := by
  obtain ⟨ρ, M, F, Q0, s, q, g⟩ := h
  refine ⟨ρ, M, F, _, s, q, fun x M1 v H1 q1 t1 f1 r1 p1 => ?_⟩
  obtain ⟨a, fs, rfl, ea, hl, q1⟩ := q1
  obtain ⟨dx, vs, e1, ps⟩ := r1 _ _ ea
  refine ⟨a, dx, vs, p1, e1, ps.lookup_none hl, ρ, M1, F, _, s.next t1 f1 r1, q1, fun ds M2 us H2 q2 t2 f2 r2 p2 => ?_⟩
  show spD K S (v :: (us ++ [])) H2 Q E0
  rw [List.append_nil]
  exact ⟨_, M2, F, Q0, .cons (p1.stay t2) p2, r2, (s.fr.next f1).next f2, q2, (g.from t1 f1).from t2 f2⟩
theorem pd_meth {C : Addr} {m : Str} {S : Spec} {o e : Expr} {es : List Expr} {wo : WE} {u : WA} {apos pos : Pos} {pl : Sem Bool} (hM : MethM (co X) C m S) (ho : PE X o (tD X.K wo)) (ha : PA X (e :: es) (tDA X.K u)) (hs : (e :: es).all notStar = true)
    (ht : eval (.Call (.Attribute o m apos) (e :: es) [] pos) X.env = (do
      let ov ← eval o X.env
      standAt apos.atName
      let (f, first) ← holding [ov] (getMethod ov m pl)
      callWith pos f first (backTo pos (starEach (e :: es) X.env)) (backToKw pos (keywordEach [] X.env)))) :
    PE X (.Call (.Attribute o m apos) (e :: es) [] pos) (tD X.K (wMeth C m S wo u)) := by
  obtain ⟨n, f, fd, ps, F, hr, hb, hm⟩ := hM.ex
  have hs' := hs
  rw [List.all_cons, Bool.and_eq_true] at hs'
  exact (pe_meth ho hM.cl hm F hr hb .nil pass0 ha (star_of hs'.1 _ _) (back_any hs'.2) ht).imp fun _ _ _ h => meth_of h
theorem ev_meth {o : Expr} (hb : plainBase o = true) {m : Str} {apos pos : Pos} {es : List Expr} {env : Env} (hf : methodCallForm (es.length + ([] : List Keyword).length) (backTo pos (starEach es env)) (backToKw pos (keywordEach [] env)) = true) (hline : (apos.endLine == pos.line) = true) : eval (.Call (.Attribute o m apos) es [] pos) env = (do
      let ov ← eval o env
      standAt apos.atName
      let (f, first) ← holding [ov] (getMethod ov m (do return (← importBound o env).getD true))
      callWith pos f first (backTo pos (starEach es env)) (backToKw pos (keywordEach [] env))) := by
  rw [arm_eval_Call, base_plain hb]
  unfold methodCall methodCallPos calleeOf
  rw [hf, hline]
  rfl
theorem form_of {env : Env} {pos : Pos} {es : List Expr} (hs : es.all notStar = true) (hl : es.length < 30) : methodCallForm (es.length + ([] : List Keyword).length) (backTo pos (starEach es env)) (backToKw pos (keywordEach [] env)) = true := by
  have e1 : (backTo pos (starEach es env)).all (fun x => !x.1) = true := by
    have := back_any (env := env) (pos := pos) hs
    rw [List.all_eq_true]
    intro x hx
    rw [List.any_eq_false] at this
    have := this x hx
    simpa using this
  unfold methodCallForm
  rw [e1]
  have e2 : decide (es.length + ([] : List Keyword).length + (if (backToKw pos (keywordEach [] env)).isEmpty then 0 else 1) < 30) = true := by
    apply decide_eq_true
    show es.length + 0 + 0 < 30
    omega
  rw [e2]
  rfl
theorem pd_methA {C : Addr} {m : Str} {S : Spec} {o e : Expr} {es : List Expr} {wo : WE} {u : WA} {apos pos : Pos} (hM : MethM (co X) C m S) (ho : PE X o (tD X.K wo)) (ha : PA X (e :: es) (tDA X.K u)) (hb : plainBase o = true) (hs : (e :: es).all notStar = true) (hl : (e :: es).length < 30) (hline : (apos.endLine == pos.line) = true) :
    PE X (.Call (.Attribute o m apos) (e :: es) [] pos) (tD X.K (wMeth C m S wo u)) := pd_meth hM ho ha hs (ev_meth hb (form_of hs hl) hline)
theorem pd_meth0 {C : Addr} {m : Str} {S : Spec} {o : Expr} {wo : WE} {apos pos : Pos} (hM : MethM (co X) C m S) (ho : PE X o (tD X.K wo)) (hb : plainBase o = true) (hline : (apos.endLine == pos.line) = true) :
    PE X (.Call (.Attribute o m apos) [] [] pos) (tD X.K (wMeth C m S wo wNil)) := by
  obtain ⟨n, f, fd, ps, F, hr, hb', hm⟩ := hM.ex
  refine (pe_meth0 ho hM.cl hm F hr hb' .nil pass0 (ev_meth hb (form_of rfl (by decide)) hline)).imp fun σ H Q h => ?_
  obtain ⟨ρ, M, F, Q0, s, q, g⟩ := h
  refine ⟨ρ, M, F, _, s, q, fun x M1 v H1 q1 t1 f1 r1 p1 => ?_⟩
  obtain ⟨a, fs, rfl, ea, hl, q1⟩ := q1
  obtain ⟨dx, vs, e1, ps⟩ := r1 _ _ ea
  refine ⟨a, dx, vs, p1, e1, ps.lookup_none hl, ?_⟩
  exact ⟨_, M1, F, Q0, .cons p1 .nil, r1, s.fr.next f1, q1, g.from t1 f1⟩
end
end DL

set_option Elab.async false
set_option linter.all false
set_option maxRecDepth 100000
set_option maxHeartbeats 4000000
/-! DLy4: l.pop(), d.pop(k), tuple * n, tuple(range(n)), list(range(n)). -/
namespace DL
open PySem PySem.Spec PyProof.Rows L2
variable {K : PySem.W.Frag}
section
variable {X : Cx} {a b e : Expr} {wa wb : WE} {pos apos : Pos}
/-! ### l.pop() -/
def popM : MSpec := fun x ds M Q => ∃ p xs y, x = .ref p ∧ ds = [] ∧ M p = some (.lst (xs ++ [y])) ∧ Q y (up M p (.lst xs))
theorem Reps.unsnoc {H : Hp} {ds : List D} {d : D} {vs : List V} (r : Reps K H (ds ++ [d]) vs) : ∃ us u, vs = us ++ [u] ∧ Reps K H ds us ∧ Rep K H d u := by
  have hl := r.length
  rw [List.length_append, List.length_singleton] at hl
  obtain ⟨u, e, ru⟩ := r.get (i := ds.length) (d := d) (by rw [List.getElem?_append_right (Nat.le_refl _), Nat.sub_self]; rfl)
  have h1 := r.take ds.length
  rw [List.take_left] at h1
  refine ⟨vs.take ds.length, u, ?_, h1, ru⟩
  apply List.ext_getElem?
  intro i
  by_cases hi : i < ds.length
  · rw [List.getElem?_append_left (by rw [List.length_take]; omega), List.getElem?_take_of_lt hi]
  · rw [List.getElem?_append_right (by rw [List.length_take]; omega), List.length_take]
    by_cases h2 : i = ds.length
    · subst h2
      rw [e, show ds.length - min ds.length vs.length = 0 by omega]
      rfl
    · rw [List.getElem?_eq_none (by omega), List.getElem?_eq_none (by rw [List.length_singleton]; omega)]
theorem md_pop : MtR X "list.pop" (rDM X.K popM) := MtR.lift (r := rPop) mt_pop fun d ds M F H Q0 Q v vs r0 r1 m fr h g => by
  obtain ⟨p, xs, y, rfl, rfl, e, q⟩ := h
  cases r0
  have hv : vs = [] := by unfold Reps at r1; exact r1
  subst hv
  obtain ⟨ws, e1, p1⟩ := m _ _ e
  obtain ⟨us, u, rfl, p2, ru⟩ := p1.unsnoc
  refine ⟨p, _, u, rfl, rfl, e1, ?_, ?_⟩
  · rw [List.length_append, List.length_singleton, Nat.add_sub_cancel, List.getElem?_append_right (Nat.le_refl _), Nat.sub_self]; rfl
  · rw [List.dropLast_concat]
    exact g _ _ _ _ q (.lst e1) (fr.put e _) (m.put e ⟨_, upd_same, p2.stay (.lst e1)⟩) (ru.stay (.lst e1))
theorem pd_pop (ho : PE X a (tD X.K wa)) (hb : plainBase a = true) (hline : (apos.endLine == pos.line) = true) : PE X (.Call (.Attribute a "pop" apos) [] [] pos) (tD X.K (wBm "list" popM wa wNil)) :=
  pd_bm0 PySem.F.plainAttrs_list PySem.F.slot_list_pop PySem.F.type_list_pop md_pop ho hb hline
/-! ### d.pop(k), the keys being tuples -/
def dropL {κ : Type} [DecidableEq κ] {β : Type} (kvs : List (κ × β)) (k : κ) : List (κ × β) := kvs.filter fun p => decide (p.1 ≠ k)
theorem TPs.dropK {H : Hp} {k : List Key} : ∀ {ds : List (List Key × D)} {xs : List (List Key × Addr × V)}, TPs K H ds xs → TPs K H (dropL ds k) (dropL xs k)
  | [], _, h => by unfold TPs at h; subst h; exact rfl
  | (j, c) :: ds, _, h => by
    unfold TPs at h
    obtain ⟨b, u, r, rfl, h0, h1, h2⟩ := h
    have ih := TPs.dropK (k := k) h2
    unfold dropL at ih ⊢
    rw [List.filter_cons, List.filter_cons]
    by_cases e : j = k
    · subst e
      simp only [ne_eq, not_true_eq_false, decide_false, Bool.false_eq_true, if_false]
      exact ih
    · simp only [ne_eq, e, not_false_eq_true, decide_true, if_true]
      exact ⟨b, u, _, rfl, h0, h1, ih⟩
theorem paired_drop {xs : List (List Key × Addr × V)} {ys : List (List Key × Addr × Value)} {k : List Key} (f : Paired (fun (p : List Key × Addr × V) (q : List Key × Addr × Value) => p.1 = q.1 ∧ p.2.1 = q.2.1 ∧ RelV p.2.2 q.2.2) xs ys) :
    Paired (fun (p : List Key × Addr × V) (q : List Key × Addr × Value) => p.1 = q.1 ∧ p.2.1 = q.2.1 ∧ RelV p.2.2 q.2.2) (dropL xs k) (withoutH ys k) := by
  induction f with
  | nil => exact .nil
  | @cons x y xs ys h t ih =>
    unfold dropL withoutH at ih ⊢
    rw [List.filter_cons, List.filter_cons]
    by_cases e : x.1 = k
    · have e' : y.1 = k := h.1 ▸ e
      simp only [ne_eq, e, e', not_true_eq_false, decide_false, Bool.false_eq_true, if_false]
      exact ih
    · have e' : ¬ y.1 = k := h.1 ▸ e
      simp only [ne_eq, e, e', not_false_eq_true, decide_true, if_true]
      exact .cons h ih
def popX (P : Program) (w : World) : D → D → Mp → DQ → Prop := fun x y M Q => ∃ p kvs ds k d, x = .ref p ∧ M p = some (.dX P w kvs) ∧ y = .tup ds ∧ keysD ds = some k ∧ atL kvs k = some d ∧ kvs.length ≤ sizeLine ∧ Q d (up M p (.dX P w (dropL kvs k)))
def wPopX (P : Program) (w : World) (wa wb : WE) : WE := fun ρ M Q => wa ρ M fun x M1 => (∃ p kvs, x = .ref p ∧ M1 p = some (.dX P w kvs)) ∧ wb ρ M1 fun y M2 => popX P w x y M2 Q
theorem pd_popX {P : Program} {w : World} (eP : P = X.prog) (ew : w = X.w) (hu : Ru X) (ho : PE X a (tD X.K wa)) (hb : PE X b (tD X.K wb)) (hba : plainBase a = true) (hs : notStar b = true) (hline : (apos.endLine == pos.line) = true) :
    PE X (.Call (.Attribute a "pop" apos) [b] [] pos) (tD X.K (wPopX P w wa wb)) := ⟨fun pins s σ H Q I h => by
  subst eP ew
  have hu1 : X.A.units + 1 < cLine := by have := hu; omega
  obtain ⟨ρ, M, F, Q0, st, q, g⟩ := h
  have hss : ([b] : List Expr).all notStar = true := by rw [List.all_cons, hs]; rfl
  refine wpAny_Call_method_late (base_plain hba _ _ _) (form_of hss (by show 1 < 30; decide)) hline rfl (thn (ho.run pins s σ H (fun v H1 => ∃ d1 M1, ((∃ p kvs, d1 = .ref p ∧ M1 p = some (.dX X.prog X.w kvs)) ∧ wb ρ M1 fun y M2 => popX X.prog X.w d1 y M2 Q0) ∧ TupS X.K H H1 ∧ Frm F H H1 M1 ∧ RepM X.K H1 M1 ∧ Rep X.K H1 d1 v) I ⟨ρ, M, F, _, st, q, fun x M1 v H1 q1 t1 f1 r1 p1 => ⟨x, M1, q1, t1, f1, r1, p1⟩⟩) fun v s1 hh => ?_)
  obtain ⟨x, H1, I1, rx, d1, M1, ⟨⟨p, kvs, e1, e2⟩, q1⟩, t1, f1, r1, p1⟩ := hh
  subst e1
  cases p1
  cases (show v = Value.ref p from rx)
  obtain ⟨xs, ex, ps⟩ := r1 _ _ e2
  obtain ⟨hsm, ys, f, dd⟩ := td_dict I1 ex ps.sq
  have ty := dd.typeIs
  refine ⟨"dict", "dict.pop", PySem.F.plainAttrs_dict, PySem.F.slot_dict_pop, PySem.F.type_dict_pop, ty, fun a' ea => ?_, ?_⟩
  · cases ea
    obtain ⟨o, es, ep, ho', hx, _⟩ := dd
    exact ⟨o, ho', hx.2.1⟩
  · have hA := (pa_cons hb pa_nil (star_of hs _ _)).run pos pins s1 σ H1 (fun vs H2 => ∃ y M2 v2, vs = [v2] ∧ popX X.prog X.w (.ref p) y M2 Q0 ∧ TupS X.K H1 H2 ∧ Frm F H1 H2 M2 ∧ RepM X.K H2 M2 ∧ Rep X.K H2 y v2) I1 ⟨ρ, M1, F, _, st.next t1 f1 r1, q1, fun y M2 v2 H2 q2 t2 f2 r2 p2 => ⟨y, M2, v2, rfl, q2, t2, f2, r2, p2⟩⟩
    rw [star_of hs _ _] at hA ⊢
    refine Calls.callWith_builtin (by rfl) (Calls.evalArgs_plain ?_)
    refine thn hA fun us s2 ⟨vs, H2, I2, r2', y, M2, v2, ev, q2, t2, f2, r2, p2⟩ => ?_
    subst ev
    obtain ⟨u, rfl, ru⟩ := Vals.one r2'
    obtain ⟨p', kvs2, ds, k, d, e3, e4, rfl, ek, el, hz, q2⟩ := q2
    cases e3
    obtain ⟨xs2, ex2, ps2⟩ := r2 _ _ e4
    unfold Rep at p2
    obtain ⟨bb, vs, rfl, sq, rs⟩ := p2
    have evs := keysD_reps ek rs
    subst evs
    cases (show u = Value.ref bb from ru)
    obtain ⟨hsm2, ys2, g2, dd2⟩ := td_dict I2 ex2 ps2.sq
    obtain ⟨w0, ew, rw⟩ := ps2.look el
    obtain ⟨pr, e5, rq⟩ := (at_keys g2 k).1 w0 ew
    have eln : kvs2.length = xs2.length := by have := congrArg List.length ps2.keys; simpa using this
    have el2 : xs2.length = ys2.length := (fit_keys g2).2.1
    refine call_pop_heap (.inl rfl) (PySem.F.args_dict_pop_2 _ _) (tupleKind_room_in1 hu1) (key_sq I2 sq) hsm2 dd2 e5 (fun h' dd' hs' => ?_) (by rw [← el2, ← eln]; exact hz)
    obtain ⟨o', es, ep, hq, h2, h3, h4, _, h5⟩ := dd'
    have nt := (r2 _ _ e4).notup
    have tt : TupS X.K H2 (upd H2 p (.ext (TD X.prog X.w p (dropL xs2 k)))) := .at_ nt
    have ff := ((st.fr.next f1).next f2).put (u := .ext (TD X.prog X.w p (dropL xs2 k))) e4 (.dX X.prog X.w (dropL kvs2 k))
    refine ⟨w0, _, d_write I2 (by rw [ex2]; exact True.intro) hs' ⟨o', hq⟩ (td_ok ⟨hsm2, _, paired_drop g2, o', es, ep, hq, h2, h3, h4, h5⟩), rq, ?_⟩
    exact g _ _ _ _ q2 ((t1.trans t2).trans tt) ((f1.trans f2).trans ff) (r2.put e4 ⟨_, upd_same, (ps2.dropK).stay tt⟩) (rw.stay tt)⟩
/-! ### tuple(range(n)), list(range(n)) -/
def rgD (t : Bool) : D → Mp → DQ → Prop := fun x M Q => ∃ n, x = .int n ∧ 0 ≤ n ∧ n ≤ 16777216 ∧ (if t = true then Q (.tup (rngI 0 n)) M else ∀ p, M p = none → Q (.ref p) (up M p (.lst (rngI 0 n))))
theorem rng_reps {H : Hp} (n : Int) : Reps K H (rngI 0 n) (rgV 0 n) := by
  have h := Reps.ints (K := K) (H := H) ((List.range (n - 0).toNat).map fun i => 0 + ((i : Nat) : Int))
  rw [List.map_map, List.map_map] at h
  exact h
theorem pd_rgC (t : Bool) {p1 p2 pos1 : Pos} (hc : X.calm = true) (hg : Gl X (if t = true then "tuple" else "list")) (hm : X.mg (if t = true then "tuple" else "list") = none) (hgr : Gl X "range") (hmr : X.mg "range" = none) (ha : PE X a (tD X.K wa)) (hs : notStar a = true) :
    PE X (.Call (.Name (if t = true then "tuple" else "list") p1) [.Call (.Name "range" p2) [a] [] pos1] [] pos) (tD X.K (w1 (rgD t) wa)) := by
  have hr := prg_1 (p := p2) (pos := pos1) hgr hmr ha (star_of hs _ _)
  cases t with
  | true =>
    refine (pe_tupRg (p := p1) (pos := pos) hc hg hm hr).imp fun σ H Q => ?_
    rintro ⟨ρ, M, F, Q0, s, q, g⟩
    refine ⟨ρ, M, F, _, s, q, fun x M1 v H1 q1 t1 f1 r1 p1 => ?_⟩
    obtain ⟨n, rfl, n0, n1, q1⟩ := q1
    rw [if_pos rfl] at q1
    cases p1
    refine ⟨n, rfl, .of_le (by omega) n1 (by omega) n0, fun p hp => ?_⟩
    exact g _ M1 _ _ q1 (t1.trans (.new hp)) (f1.trans ((s.fr.next f1).more hp)) (r1.more hp) (by unfold Rep; exact ⟨p, _, rfl, .of upd_same, rng_reps n⟩)
  | false =>
    refine (pe_listRg (p := p1) (pos := pos) hc hg hm hr).imp fun σ H Q => ?_
    rintro ⟨ρ, M, F, Q0, s, q, g⟩
    refine ⟨ρ, M, F, _, s, q, fun x M1 v H1 q1 t1 f1 r1 p1 => ?_⟩
    obtain ⟨n, rfl, n0, n1, q1⟩ := q1
    rw [if_neg Bool.false_ne_true] at q1
    cases p1
    refine ⟨n, rfl, .of_le (by omega) n1 (by omega) n0, fun p hp => ?_⟩
    exact g _ _ _ _ (q1 p (r1.none hp)) (t1.trans (.new hp)) (f1.trans ((s.fr.next f1).new hp _)) (r1.new hp ⟨_, upd_same, rng_reps n⟩) rfl
end
end DL

set_option Elab.async false
set_option linter.all false
set_option maxRecDepth 100000
set_option maxHeartbeats 4000000
/-! DLy5: sorted(set(xs)), xs a list of ints. -/
namespace DL
open PySem PySem.Spec PyProof.Rows L2
variable {K : PySem.W.Frag}
abbrev nset (w : World) : Obj := { cls := .type "set", dict := none, data := .set #[] 0 (.fresh 0 0 (!w.params.followText "set-order")) }
section
variable {P : Program} {w : World} {A : Around} {E : Value → Shared → Prop} {s : Shared}
theorem not_two {b x y : Addr} (h1 : b ≠ x) (h2 : b ≠ y) : b ∉ [x, y] := by simp [h1, h2]
theorem call_set_lstI {l : Addr} {vals : Array Value} (ns : List Int) {Q : Value → Shared → Prop} (hno : A.handled = none) (hlist : s.heap.IsList l vals) (hints : IntsAre vals.toList ns) (hfew : ns.length + 1 < scanBound)
    (out : ∀ (h2 : Heap) (tk2 c : Nat), SetR w h2 s.heap.objs.size (fun j => decide (j ∈ ns)) c → c ≤ ns.length → (∀ b o, s.heap.get? b = some o → h2.get? b = some o) → Q (.ref s.heap.objs.size) { s with heap := h2, toks := tk2 }) : wpAny (model P w) A (call (.type "set") [.ref l]) Q E s := by
  have esz : vals.size = ns.length := by have q := IntsAre.length hints; rwa [Array.length_toList] at q
  obtain ⟨cm, tm, mm⟩ := F.called_set.mro
  have md := F.called_set.made
  have sb := F.called_set.sub
  refine wpAny_call (codeAny_of_tree (show wpAny _ _ (callAny (.type "set") _) _ _ _ from ?_))
  refine wpAny_pure ⟨Code.quiet_builtin _ (by decide +kernel), codeAny_builtin F.entry_type_call ?gg⟩
  rw [Around.under_plain (weight_type_call_type "set" [.ref l] []) rfl]
  have n1 := F.called_set.notType
  have n2 := F.called_set.canCreate
  have n3 := F.typeCall_set_1 (.ref l)
  repeat (any_goals (first | assumption | wp_step))
  refine codeAny_mono (code_set_led1 (.ref l) (E := E) (Q₁ := fun ob t => ob = .ref s.heap.objs.size ∧ t = { s with heap := s.heap.push (nset w) }) ⟨rfl, rfl⟩) fun r t hr => ?_
  cases r with
  | error e => exact hr
  | ok fl =>
    cases fl with
    | ret ob =>
      obtain ⟨rfl, rfl⟩ := hr
      have gS : (s.heap.push (nset w)).get? s.heap.objs.size = some (nset w) := Heap.get?_push_size _ rfl
      have tS : Shared.TypeIs { s with heap := s.heap.push (nset w) } (.ref s.heap.objs.size) "set" := ⟨_, gS, rfl⟩
      have l1 := F.called_set.init.lookup
      have l2 := F.called_set.init.bind (.ref s.heap.objs.size)
      repeat (any_goals (first | assumption | wp_step))
      refine codeAny_mono (codeAny_call_builtin (R := wants (fun r t => r = .none ∧ ∃ h2 tk2 c, t = { s with heap := h2, toks := tk2 } ∧ SetR w h2 s.heap.objs.size (fun j => decide (j ∈ ns)) c ∧ c ≤ ns.length ∧ (∀ b o, s.heap.get? b = some o → h2.get? b = some o)) E) F.called_set.init.plain F.entry_set_init (check_set_init_1 tS ?_)) fun r2 t2 hr2 => ?_
      · obtain ⟨⟨oc, od, oda, osl⟩, ho, hc0, nl, hd0⟩ := hlist
        simp only at hc0 hd0
        subst hc0
        subst hd0
        have ho2 : (s.heap.push (nset w)).get? l = some { cls := .type "list", dict := od, data := .seq vals nl, slots := osl } := Heap.get?_push_of_some _ ho
        have s1 := F.sub_list_set
        have s2 := F.sub_list_frozenset
        have s3 : (Value.type "list" == Value.type "dict") = false := by decide
        have isl : (s.heap.push (nset w)).IsList l vals := ⟨_, ho2, rfl, nl, rfl⟩
        unfold Builtin.«set.__init__» noKeywords Builtin.Frozenset.updateFrom
        generalize gPI : pyIter = PI
        wp_walk
        subst gPI
        refine wpAny_pyIter_list isl (wpAny_bind (wpAny_runValue ?_))
        have lts : l < s.heap.objs.size := Heap.lt_size ho
        have zz : (s.heap.push (nset w)).objs.size = s.heap.objs.size + 1 := Heap.size_push ..
        have hno3 : A.in1.in1.in1.handled = none := by simp [hno]
        have nI : l ≠ (s.heap.push (nset w)).objs.size := by rw [zz]; exact Nat.ne_of_lt (Nat.lt_succ_of_lt lts)
        have nS : s.heap.objs.size ∉ [(s.heap.push (nset w)).objs.size, l] := not_two (by rw [zz]; exact Nat.ne_of_lt (Nat.lt_succ_self _)) (Nat.ne_of_gt lts)
        have vv : ∀ (i : Nat) (v : Value), vals[i]? = some v → ∃ k t, ns[i]? = some k ∧ v = .int k t := fun i v hv => by
          have il : i < ns.length := by rw [← esz]; exact (Array.getElem?_eq_some_iff.mp hv).1
          obtain ⟨t, e⟩ := IntsAre.int_at hints i v (by rw [Array.getElem?_toList]; exact hv)
          exact ⟨ns[i], t, List.getElem?_eq_getElem il, by rw [e, List.getD_eq_getElem?_getD, List.getElem?_eq_getElem il]; rfl⟩
        refine set_update_ints ((Walks.list hno3 _ l nI vals).toS) s.heap.objs.size nS ns esz hfew vv (vals.size - 0) 0 _ (by omega) (Nat.zero_le _) ⟨⟨_, Heap.get?_push_size _ rfl, rfl, rfl⟩, (isl.push _)⟩ ⟨0, Nat.le_refl 0, setR_new_at (Heap.get?_push_of_some _ gS)⟩ fun t3 c3 mv lc sr => ?_
        obtain ⟨h3, g3, d3, k3, o3⟩ := t3
        obtain rfl : g3 = s.gens := mv.gens
        obtain rfl : d3 = s.drawn := mv.drawn
        obtain rfl : o3 = s.os := mv.os
        refine (show wpAny _ _ _ _ _ _ from wpAny_pure (show wpAny _ _ (ret Value.none) _ _ _ from ?_))
        refine wpAny_pure ⟨rfl, h3, k3, c3, rfl, sr, by omega, fun b o e => mv.heap b o (not_two ?_ ?_) (Heap.get?_push_of_some _ (Heap.get?_push_of_some _ e))⟩
        · exact Nat.ne_of_lt (Heap.lt_size e)
        · rw [zz]; exact Nat.ne_of_lt (Nat.lt_succ_of_lt (Heap.lt_size e))
      · cases r2 with
        | error e => exact hr2
        | ok fl2 =>
          cases fl2 with
          | ret r =>
            obtain ⟨rfl, h2, tk2, c2, rfl, q1, q2, q3⟩ := hr2
            repeat (any_goals (first | assumption | wp_step))
            exact out _ _ _ q1 q2 q3
          | _ => exact hr2.elim
    | _ => exact hr.elim
end
theorem few_of : ∀ {N : Nat} {l : List Int}, l.Nodup → (∀ i ∈ l, 0 ≤ i ∧ i < (N : Int)) → l.length ≤ N
  | 0, l, hn, hb => by
    cases l with
    | nil => exact Nat.le_refl _
    | cons x l => have := hb x List.mem_cons_self; omega
  | N + 1, l, hn, hb => by
    have h1 := few_of (N := N) (l := l.erase (N : Int)) (hn.erase _) fun i hi => by
      obtain ⟨ne, hi⟩ := hn.mem_erase_iff.mp hi
      have := hb i hi
      omega
    rw [List.length_erase] at h1
    split at h1 <;> omega
/-- sorted(set(xs)): a list of ints from 0 to 59 -/
def ssD : D → Mp → DQ → Prop := fun x M Q => ∃ ns, seqD M x (List.map D.int ns) ∧ ns.length ≤ 4000 ∧ (∀ i ∈ ns, 0 ≤ i ∧ i < 60) ∧ ∀ (out : List Int) (q : Addr), out.Pairwise (· < ·) → (∀ i : Int, i ∈ out ↔ i ∈ ns) → M q = none → Q (.ref q) (up M q (.lst (out.map D.int)))
section
variable {X : Cx} {a : Expr} {wa : WE} {ta : TE} {pos pos1 p1 p2 : Pos}
def tSS (K : PySem.W.Frag) (ta : TE) : TE := fun σ H Q => ta σ H fun x H1 => ∃ (l : Addr) (ns : List Int), x = V.ref l ∧ (SqL K H1 l (ns.map V.int) ∨ SqT K H1 l (ns.map V.int)) ∧ ns.length ≤ 4000 ∧ (∀ i ∈ ns, 0 ≤ i ∧ i < 60) ∧ ∀ (out : List Int) (p : Addr), out.Pairwise (· < ·) → (∀ i : Int, i ∈ out ↔ i ∈ ns) → H1 p = none → Q (.ref p) (upd H1 p (.lst (out.map V.int)))
theorem ss_end {pins : List (Addr × Obj)} {s : Shared} {σ : L2.St} {H : Hp} {a : Addr} {S : Int → Bool} {n : Nat} {Q : VK} (hc : X.calm = true) (I : L2.Inv X pins σ H s) (R : SetR X.w s.heap a S n) (h64 : n < 64)
    (q : ∀ (out : List Int) (p : Addr), out.Pairwise (· < ·) → (∀ i : Int, i ∈ out ↔ S i = true) → H p = none → Q (.ref p) (upd H p (.lst (out.map V.int)))) :
    wpAny (model X.prog X.w) X.A (call (.builtin "sorted") [.ref a]) (EP X pins σ Q) X.xe s := by
  refine sorted_set R (I.ok.hd hc) h64 fun s3 p ou cc os k3 g o hp hg3 hi hs hmm hll => ?_
  have hlen : (os.map V.int).length ≤ sizeLine := by rw [List.length_map, hll, sizeLine_eq]; omega
  have hn : H p = none := I.hok.fresh hp
  have J : L2.Inv X pins σ (upd H p (.lst (os.map V.int))) { s with heap := s3.heap, gens := s3.gens, drawn := s3.drawn, toks := s3.toks } :=
    I.call (ch := []) (Un.laid k3 hp hn) (I.hok.laid k3 hp ⟨hlen, ou.toList, cc, vals_of_ints hi, hg3⟩) (by rw [g]; exact I.bare) (fun _ z => nomatch z)
  have e : s3 = { s with heap := s3.heap, gens := s3.gens, drawn := s3.drawn, toks := s3.toks } := by
    cases s3; cases s; cases o; rfl
  rw [e]
  exact ⟨.ref p, _, J, rfl, q os p hs hmm hn⟩
theorem pe_ss (hc : X.calm = true) (hg : Gl X "sorted") (hm : X.mg "sorted" = none) (hg2 : Gl X "set") (hm2 : X.mg "set" = none) (ha : PE X a ta) (na : starEach [a] X.env = (false, eval a X.env) :: starEach [] X.env) :
    PE X (.Call (.Name "sorted" p1) [.Call (.Name "set" p2) [a] [] pos1] [] pos) (tSS X.K ta) := by
  refine ⟨fun pins s σ H Q I h => Call_ (ld_blt I hg hm PyProof.Rows.boot_sorted ?_)⟩
  refine PyProof.Rows.callWith_builtin1 (PyProof.Rows.args_cons (Call_ (ld_blt I hg2 hm2 PyProof.Rows.boot_set ?_)) rfl) rfl rfl
  refine PyProof.Rows.callWith_type1 (PyProof.Rows.args_cons (thn (ha.run pins s σ H _ I h) fun v s1 ⟨x, H1, I1, r1, q1⟩ => PyProof.Rows.args_nil ?_) na) na rfl
  obtain ⟨l, ns, rfl, hq, hl, hb, q1⟩ := q1
  cases r1
  have fin : ∀ (h2 : Heap) (tk2 c : Nat), SetR X.w h2 s1.heap.objs.size (fun j => decide (j ∈ ns)) c → c ≤ ns.length → (∀ b o, s1.heap.get? b = some o → h2.get? b = some o) → wpAny (model X.prog X.w) X.A (call (.builtin "sorted") [.ref s1.heap.objs.size]) (EP X pins σ Q) X.xe { s1 with heap := h2, toks := tk2 } := fun h2 tk2 c R hcn k => by
    have I2 : L2.Inv X pins σ H1 { s1 with heap := h2, toks := tk2 } := I1.kept fun b o e => k b o e
    have c64 : c < 64 := by
      obtain ⟨o, es, ep, t, ho, hex, hd, g, nd, hm, hb2, hf, hn, hr, hl⟩ := R
      have := few_of (N := 60) nd fun i hi => by
        have := (hm i).mpr hi
        exact hb i (of_decide_eq_true this)
      rw [List.length_map, Array.length_toList] at this
      omega
    exact ss_end hc I2 R c64 fun os p h1 h2 h3 => q1 os p h1 (fun i => by rw [h2 i, decide_eq_true_eq]) h3
  rcases hq with hq | hq
  · obtain ⟨its, r, pl, hz⟩ := I1.list hq
    exact call_set_lstI ns (I1.ok.hd hc) pl.isList (by simpa using r.ints) (by unfold scanBound; omega) fun h2 tk2 c R hcn k => PyProof.Rows.args_nil (fin h2 tk2 c R hcn k)
  · obtain ⟨its, r, pl, hz⟩ := I1.tuple hq
    exact call_set_tupI ns (I1.ok.hd hc) (show s1.heap.IsTuple l its.toArray from pl) (by simpa using r.ints) (by unfold scanBound; omega) fun h2 tk2 c R hcn k => PyProof.Rows.args_nil (fin h2 tk2 c R hcn k)
theorem pd_ss (hc : X.calm = true) (hg : Gl X "sorted") (hm : X.mg "sorted" = none) (hg2 : Gl X "set") (hm2 : X.mg "set" = none) (ha : PE X a (tD X.K wa)) (hs : notStar a = true) :
    PE X (.Call (.Name "sorted" p1) [.Call (.Name "set" p2) [a] [] pos1] [] pos) (tD X.K (w1 ssD wa)) := by
  refine (pe_ss (p1 := p1) (p2 := p2) (pos1 := pos1) (pos := pos) hc hg hm hg2 hm2 ha (star_of hs _ _)).imp fun σ H Q => ?_
  rintro ⟨ρ, M, F, Q0, s, q, g⟩
  refine ⟨ρ, M, F, _, s, q, fun x M1 v H1 q1 t1 f1 r1 p1 => ?_⟩
  obtain ⟨ns, hx, hl, hb, q1⟩ := q1
  have hv : ∃ l, v = V.ref l ∧ (SqL X.K H1 l (ns.map V.int) ∨ SqT X.K H1 l (ns.map V.int)) := by
    rcases hx with rfl | ⟨a, rfl, e⟩
    · unfold Rep at p1
      obtain ⟨a, vs, rfl, h1, h2⟩ := p1
      have ev := Reps.ints' h2
      subst ev
      exact ⟨a, rfl, .inr h1⟩
    · cases p1
      obtain ⟨vs, e1, rr⟩ := r1 _ _ e
      have ev := Reps.ints' rr
      subst ev
      exact ⟨a, rfl, .inl (.of e1)⟩
  obtain ⟨l, rfl, hq⟩ := hv
  refine ⟨l, ns, rfl, hq, hl, hb, fun out p2 ho hm hp => ?_⟩
  exact g _ _ _ _ (q1 out p2 ho hm (r1.none hp)) (t1.trans (.new hp)) (f1.trans ((s.fr.next f1).new hp _)) (r1.new hp ⟨_, upd_same, Reps.ints out⟩) rfl
end
end DL

set_option Elab.async false
set_option linter.all false
set_option maxRecDepth 100000
set_option maxHeartbeats 4000000
/-! DLy6: t[::-1], dict(list of pairs). -/
namespace DL
open PySem PySem.Spec PyProof.Rows L2
variable {K : PySem.W.Frag}
section
variable {prog : Program} {w : World} {A : Around} {E : Value → Shared → Prop} {s : Shared}
theorem rev_adjust (n : Nat) : Builtin.Slice.sliceAdjust none none (-1) (n : Int) = ((n : Int) - 1, -1) := by unfold Builtin.Slice.sliceAdjust; rfl
theorem rev_places (n : Nat) : Builtin.Slice.slicePlaces ((n : Int) - 1) (-1) (-1) = n := by
  have e : ¬ ((-1 : Int) > 0) := by omega
  unfold Builtin.Slice.slicePlaces
  simp only [e, if_false, Int.neg_neg, Int.ediv_one]
  split <;> omega
theorem rev_applied {sl : Addr} {vs : Value} {n : Nat} {Q : Int × Int × Nat → Shared → Prop} (hs : s.heap.IsSliceOf sl .none .none vs) (pv : IsPart vs (some (-1))) (h : Q ((n : Int) - 1, -1, n) s) : wpAny (model prog w) A (Builtin.Slice.sliceApplied (.ref sl) (pure (n : Int))) Q E s := by
  obtain ⟨o, ho, hc, hd⟩ := id hs
  unfold Builtin.Slice.sliceApplied Builtin.Slice.sliceFields
  refine wpAny_bind (wpAny_bind (wpAny_field ho hd (x := .none) rfl (wpAny_bind (wpAny_field ho hd (x := .none) rfl (wpAny_bind (wpAny_field ho hd (x := vs) rfl (wpAny_pure (wpAny_bind (HT.slicePart_ pv ?_)))))))))
  refine (show wpAny _ _ (if ((-1 : Int) == 0) = true then _ else _) _ _ s from ?_)
  rw [if_neg (by decide)]
  refine wpAny_bind (slicePart_none (wpAny_bind (slicePart_none (wpAny_bind (wpAny_pure ?_)))))
  refine (show wpAny _ _ (match Builtin.Slice.sliceAdjust none none (-1) (n : Int) with | (lo, hi) => pure (lo, (-1 : Int), Builtin.Slice.slicePlaces lo hi (-1))) _ _ s from ?_)
  rw [rev_adjust]
  refine (show wpAny _ _ (pure ((n : Int) - 1, (-1 : Int), Builtin.Slice.slicePlaces ((n : Int) - 1) (-1) (-1))) _ _ s from ?_)
  rw [rev_places]
  exact wpAny_pure h
theorem rev_pick (xs : Array Value) : ((List.range xs.size).filterMap fun (m : Nat) => xs[((xs.size : Int) - 1 + (m : Int) * (-1)).toNat]?).toArray = xs.toList.reverse.toArray := by
  congr 1
  have hl : ∀ k, k ≤ xs.size → (List.range k).filterMap (fun (m : Nat) => xs[((xs.size : Int) - 1 + (m : Int) * (-1)).toNat]?) = xs.toList.reverse.take k := by
    intro k
    induction k with
    | zero => intro _; rfl
    | succ k ih =>
      intro hk
      have hk2 : k < xs.toList.reverse.length := by rw [List.length_reverse, Array.length_toList]; omega
      rw [List.range_succ, List.filterMap_append, ih (by omega), List.take_add_one]
      congr 1
      have e1 : ((xs.size : Int) - 1 + (k : Int) * (-1)).toNat = xs.size - 1 - k := by omega
      rw [List.filterMap_cons, List.filterMap_nil, e1, List.getElem?_eq_getElem hk2, List.getElem_reverse]
      have hk3 : xs.size - 1 - k < xs.size := by omega
      rw [Array.getElem?_eq_getElem hk3]
      simp
  rw [hl xs.size (Nat.le_refl _)]
  exact List.take_of_length_le (by rw [List.length_reverse, Array.length_toList]; exact Nat.le_refl _)
theorem item_rev {t sl : Addr} {xs : Array Value} {vs : Value} {Q : Value → Shared → Prop} (ht : IsTup s.heap t xs) (hs : s.heap.IsSliceOf sl .none .none vs) (pv : IsPart vs (some (-1)))
    (h : Q (.ref s.heap.objs.size) { s with heap := s.heap.push { cls := .type "tuple", data := .seq xs.toList.reverse.toArray } }) (hz : xs.size ≤ sizeLine) : wpAny (model prog w) A (getItem (.ref t) (.ref sl)) Q E s := by
  have hz' : sizeOk (.seq xs.toList.reverse.toArray) := show xs.toList.reverse.toArray.size ≤ sizeLine by rw [List.size_toArray, List.length_reverse, Array.length_toList]; exact hz
  obtain ⟨o, ho, hc, hd⟩ := id hs
  have hT : s.TypeIs (.ref sl) "slice" := ⟨o, ho, hc⟩
  unfold getItem
  try with_reducible refine wpAny_holding ?_
  first | refine wpAny_bind (wpAny_pure ?_) | skip
  refine wpAny_bind (wpAny_sequenceKey ht.typeIs (by decide) (wpAny_bind (wpAny_callSpecial?_slot (name := Str.ofString "__getitem__") ht.typeIs PyProof.Rows.slot_tuple_getitem (wpAny_call_entry PyProof.Rows.slot_tuple_getitem ht.typeIs entry_tuple_getitem ?_ (args_tuple_getitem _ _)))))
  refine (show wpAny _ _ (Builtin.Tuple.tupleItemsOf (.ref t) >>= _) _ _ s from wpAny_bind (tupleItemsOf_ ht (wpAny_bind (wpAny_typeOf hT ?_))))
  rw [if_pos (by decide)]
  refine wpAny_bind (rev_applied hs pv ?_)
  have no : ¬ (((xs.size : Int) - 1 == 0 && (-1 : Int) == 1 && xs.size == xs.size) = true) := by simp
  refine (show wpAny _ _ (if ((xs.size : Int) - 1 == 0 && (-1 : Int) == 1 && xs.size == xs.size) = true then _ else _) _ _ s from ?_)
  rw [if_neg no, rev_pick]
  first
    | exact wpAny_bind (m := Builtin.Tuple.tupleExact _) (wpAny_newObj_type (wpAny_pure ⟨_, rfl, wpAny_pure h⟩) hz')
    | exact wpAny_bind (wpAny_bind (m := Builtin.Tuple.tupleExact _) (wpAny_newObj_type (wpAny_pure ⟨_, rfl, wpAny_pure h⟩) hz'))
    | exact wpAny_bind (wpAny_bind (m := Builtin.Tuple.tupleExact _) (wpAny_newObj_type (wpAny_pure (wpAny_pure ⟨_, rfl, wpAny_pure h⟩)) hz'))
end
section
variable {X : Cx} {e : Expr} {te : TE} {we : WE} {k : Nat} {p1 p2 p3 pos : Pos}
def tRvT (K : PySem.W.Frag) (te : TE) : TE := fun σ H Q => te σ H fun x H1 => ∃ a xs, x = V.ref a ∧ ((SqT K H1 a xs ∧ ∀ p, H1 p = none → Q (.ref p) (upd H1 p (.tup xs.reverse))) ∨ (SqL K H1 a xs ∧ ∀ p, H1 p = none → Q (.ref p) (upd H1 p (.lst xs.reverse))))
theorem pe_rvT (he : PE X e te) : PE X (.Subscript e (.Slice none none (some (.UnaryOp .USub (.Constant (.int 1) k p1) p2)) p3) pos) (tRvT X.K te) := by
  have hst : PO X (some (.UnaryOp .USub (.Constant (.int 1) k p1) p2)) (tPart (tUn (rU fun i => .int (-i)) (tC (.int 1)))) := po_some (pe_un un_neg pe_int)
  refine ⟨fun pins s σ H Q I h => Subscript_ (thn (he.run pins s σ H _ I h) fun v s1 ⟨x, H1, I1, r1, a, xs, ex, hxq⟩ => ?_)⟩
  subst ex
  cases r1
  refine wpAny_Slice (thn (po_none.run pins s1 σ H1 (fun o H2 => o = none ∧ H2 = H1) I1 ⟨rfl, rfl⟩) fun v1 s2 ⟨o1, H2, I2, pa, ea, e2⟩ => ?_)
  subst ea e2
  refine thn (po_none.run pins s2 σ H2 (fun o H3 => o = none ∧ H3 = H2) I2 ⟨rfl, rfl⟩) fun v2 s3 ⟨o2, H3, I3, pb, eb, e3⟩ => ?_
  subst eb e3
  refine thn (hst.run pins s3 σ H3 (fun o H4 => o = some (-1) ∧ H4 = H3) I3 ⟨1, rfl, -1, rfl, rfl, rfl⟩) fun v3 s4 ⟨o3, H4, I4, pc, ec, e4⟩ => ?_
  subst ec e4
  cases pa
  cases pb
  have I5 : L2.Inv X pins σ H4 { s4 with heap := s4.heap.push { cls := .type "slice", data := .fields #[.none, .none, v3] } } := I4.kept (t' := s4.toks) fun b ob q => Heap.get?_push_of_some _ q
  rcases hxq with ⟨hx, q⟩ | ⟨hx, q⟩
  · obtain ⟨its, r, ht, hz⟩ := I5.tuple hx
    refine (show wpAny (model X.prog X.w) X.A (subscriptTail e (.Slice none none (some (.UnaryOp .USub (.Constant (.int 1) k p1) p2)) p3) (.ref a) (.ref s4.heap.objs.size)) (EP X pins σ Q) X.xe { s4 with heap := s4.heap.push { cls := .type "slice", data := .fields #[.none, .none, v3] } } from ?_)
    refine tail_any (ops := [.ref a, .ref s4.heap.objs.size]) ht.typeIs PyProof.Rows.slot_tuple_getitem.lookup ?_ (by with_unfolding_all rfl)
    refine item_rev ht (Heap.IsSliceOf.new _ .none .none v3) pc ⟨.ref _, _, I5.laid (t' := s4.toks) (o := .tup xs.reverse) (fun b ob q => Heap.get?_push_of_some _ q) (Nat.le_refl _) ?_, rfl, q _ (I5.hok.fresh (Nat.le_refl _))⟩ (by rw [List.size_toArray, ← r.length]; exact hz)
    exact ⟨by rw [List.length_reverse]; exact hz, _, r.reverse, IsTup.new _ _⟩
  · obtain ⟨its, r, ht, hz⟩ := I5.list hx
    have hlen := r.length
    refine (show wpAny (model X.prog X.w) X.A (subscriptTail e (.Slice none none (some (.UnaryOp .USub (.Constant (.int 1) k p1) p2)) p3) (.ref a) (.ref s4.heap.objs.size)) (EP X pins σ Q) X.xe { s4 with heap := s4.heap.push { cls := .type "slice", data := .fields #[.none, .none, v3] } } from ?_)
    refine tail_any (ops := [.ref a, .ref s4.heap.objs.size]) ht.isList.typeIs (PySem.slot_list_getitem.lookup) ?_ (by with_unfolding_all rfl)
    refine wpAny_getItem_list_slice ht.isList (Heap.IsSliceOf.new _ .none .none v3) .none .none pc (by decide) ?_ (by rw [List.size_toArray]; omega)
    rw [PySem.W.krv_pick]
    refine ⟨.ref _, _, I5.laid (t' := s4.toks) (o := .lst xs.reverse) (fun b ob q => Heap.get?_push_of_some _ q) (Nat.le_refl _) ?_, rfl, q _ (I5.hok.fresh (Nat.le_refl _))⟩
    exact ⟨by rw [List.length_reverse]; exact hz, _, 0, r.reverse, Heap.get?_push_size _ rfl⟩
theorem Reps.rev {H : Hp} : ∀ {ds : List D} {vs : List V}, Reps K H ds vs → Reps K H ds.reverse vs.reverse
  | [], _, h => by unfold Reps at h; subst h; exact .nil
  | d :: ds, _, h => by
    unfold Reps at h
    obtain ⟨v, r, rfl, h1, h2⟩ := h
    rw [List.reverse_cons, List.reverse_cons]
    exact (Reps.rev h2).snoc h1
def revD : D → Mp → DQ → Prop := fun x M Q => (∃ ds, x = .tup ds ∧ Q (.tup ds.reverse) M) ∨ ∃ a ds, x = .ref a ∧ M a = some (.lst ds) ∧ ∀ p, M p = none → Q (.ref p) (up M p (.lst ds.reverse))
theorem pd_rev (he : PE X e (tD X.K we)) : PE X (.Subscript e (.Slice none none (some (.UnaryOp .USub (.Constant (.int 1) k p1) p2)) p3) pos) (tD X.K (w1 revD we)) := by
  refine (pe_rvT (k := k) (p1 := p1) (p2 := p2) (p3 := p3) (pos := pos) he).imp fun σ H Q => ?_
  rintro ⟨ρ, M, F, Q0, s, q, g⟩
  refine ⟨ρ, M, F, _, s, q, fun x M1 v H1 q1 t1 f1 r1 p1 => ?_⟩
  rcases q1 with ⟨ds, rfl, q1⟩ | ⟨a, ds, rfl, e, q1⟩
  · unfold Rep at p1
    obtain ⟨a, vs, rfl, h1, h2⟩ := p1
    refine ⟨a, vs, rfl, .inl ⟨h1, fun p hp => ?_⟩⟩
    exact g _ M1 _ _ q1 (t1.trans (.new hp)) (f1.trans ((s.fr.next f1).more hp)) (r1.more hp) (by unfold Rep; exact ⟨p, _, rfl, .of upd_same, h2.rev.stay (.new hp)⟩)
  · cases p1
    obtain ⟨vs, e1, rr⟩ := r1 _ _ e
    refine ⟨a, vs, rfl, .inr ⟨.of e1, fun p hp => ?_⟩⟩
    exact g _ _ _ _ (q1 p (r1.none hp)) (t1.trans (.new hp)) (f1.trans ((s.fr.next f1).new hp _)) (r1.new hp ⟨_, upd_same, rr.rev.stay (.new hp)⟩) rfl
end
/-! ### dict(list of pairs) -/
section
variable {X : Cx}
def dictS : Spec := fun ds M Q => ∃ p, ∃ kvs : List (Key × D), ds = [.ref p] ∧ M p = some (.lst (kvs.map fun kv => .tup [kD kv.1, kv.2])) ∧ (kvs.map Prod.fst).Nodup ∧ ∀ q, M q = none → Q (.ref q) (up M q (.dK kvs))
theorem kD_val {H : Hp} {k : Key} {v : V} (h : Rep K H (kD k) v) : v = kV k := by cases k <;> exact h
theorem pairs_reps {H : Hp} : ∀ {kvs : List (Key × D)} {vs : List V}, Reps K H (kvs.map fun kv => .tup [kD kv.1, kv.2]) vs → ∃ (ps : List Addr) (us : List (Key × V)), vs = ps.map V.ref ∧ Paired (fun p (kv : Key × V) => SqT K H p [kV kv.1, kv.2]) ps us ∧ Pairs K H kvs us
  | [], _, h => by
    unfold Reps at h
    subst h
    exact ⟨[], [], rfl, .nil, by unfold Pairs; rfl⟩
  | (k, d) :: kvs, _, h => by
    rw [List.map_cons] at h
    unfold Reps at h
    obtain ⟨v, r, rfl, h1, h2⟩ := h
    obtain ⟨ps, us, rfl, h3, h4⟩ := pairs_reps h2
    unfold Rep at h1
    obtain ⟨a, ws, rfl, h5, h6⟩ := h1
    obtain ⟨x, y, rfl, h7, h8⟩ := h6.two
    have := kD_val h7
    subst this
    exact ⟨a :: ps, (k, y) :: us, rfl, .cons h5 h3, by unfold Pairs; exact ⟨y, us, rfl, h8, h4⟩⟩
theorem merge_new : ∀ (more acc : List (Key × V)), ((acc ++ more).map Prod.fst).Nodup → mergeK acc more = acc ++ more
  | [], acc, _ => by unfold mergeK; simp
  | (k, v) :: more, acc, h => by
    have hk : hasK acc k = false := by
      rw [Bool.eq_false_iff]
      intro z
      rw [hasK_iff] at z
      rw [List.map_append, List.map_cons] at h
      exact (List.nodup_append.mp h).2.2 _ z _ List.mem_cons_self rfl
    have e : putK acc k v = acc ++ [(k, v)] := by rw [putK_hasK, hk]; rfl
    show mergeK (putK acc k v) more = _
    rw [e, merge_new more (acc ++ [(k, v)]) (by simpa using h)]
    simp
theorem cd_dict (hc : X.calm = true) : CallR X (.type "dict") (rDL X.K dictS) := (call_dictP hc).lift fun ds M F H Q0 Q vs r m fr h g => by
  obtain ⟨p, kvs, rfl, e, nd, q⟩ := h
  obtain ⟨v, rfl, rr⟩ := r.one
  cases rr
  obtain ⟨ws, e1, rw'⟩ := m _ _ e
  obtain ⟨ps, us, rfl, h1, h2⟩ := pairs_reps rw'
  refine ⟨p, ps, us, rfl, .of e1, h1, fun a ha => ?_⟩
  rw [merge_new us [] (by rw [List.nil_append, ← h2.keys]; exact nd), List.nil_append]
  exact g _ _ _ _ (q a (m.none ha)) (.new ha) (fr.new ha _) (m.new ha ⟨us, upd_same, h2.stay (.new ha)⟩) rfl
end
/-! ### x, o[i] = (.., ..) -/
section
variable {X : Cx} {a z b : Expr} {wa wz wb : WE}
def wParI (i : Nat) (wo wi we : WE) : WS := fun D0 ρ M => we ρ M fun d M1 => ∃ d1 d2, d = .tup [d1, d2] ∧ wo (ρ.set i (some d1)) M1 fun x M2 => wi (ρ.set i (some d1)) M2 fun y M3 => ∃ p ds k j, x = .ref p ∧ y = .int k ∧ M3 p = some (.lst ds) ∧ ixN ds.length k = some j ∧ D0.nx (ρ.set i (some d1)) (up M3 p (.lst (ds.set j d2)))
theorem psd_parI {i : Nat} {x : Str} {kt : Nat} {px pp pt pos : Pos} (hc : X.calm = true) (hg : PG X (.Name x px) (gName i)) (ho : PE X a (tD X.K wa)) (hz : PE X z (tD X.K wz)) (he : PE X b (tD X.K wb)) (hns : notSlice z = true)
    (hs : swapsWithSole [.Tuple [.Name x px, .Subscript a z pp] kt pt] b pos.line X.env = pure false) (hw : swappedStores [.Tuple [.Name x px, .Subscript a z pp] kt pt] b X.env = pure none) :
    PS X (.Assign [.Tuple [.Name x px, .Subscript a z pp] kt pt] b pos) (tDS X.K (wParI i wa wz wb)) := by
  have hsub : PG X (.Subscript a z pp) (gSub (tD X.K wa) (tD X.K wz) rSetL) := pg_sub ho hz set_list (by intro v; cases z <;> first | rfl | cases hns)
  refine (ps_asg he (pg_tup hc (pgs_cons hg (pgs_cons hsub pgs_nil))) hs hw rfl).imp fun D σ H => ?_
  rintro ⟨ρ, M, F, D0, s, q, g⟩
  refine ⟨ρ, M, F, _, s, q, fun d M1 v H1 q1 t1 f1 r1 p1 => ?_⟩
  obtain ⟨d1, d2, rfl, q1⟩ := q1
  unfold Rep at p1
  obtain ⟨c, ws, rfl, h1, h2⟩ := p1
  obtain ⟨v1, v2, rfl, rv1, rv2⟩ := h2.two
  have s1 := (s.next t1 f1 r1).set rv1 i
  refine ⟨c, _, rfl, h1, rfl, v1, _, rfl, v2, _, rfl, ρ.set i (some d1), M1, F, _, s1, q1, fun x M2 u H2 q2 t2 f2 r2 p2 => ⟨ρ.set i (some d1), M2, F, _, s1.next t2 f2 r2, q2, fun y M3 w H3 q3 t3 f3 r3 p3 => ?_⟩⟩
  obtain ⟨p, ds, k, j, rfl, rfl, e, ej, q3⟩ := q3
  cases p2
  cases p3
  obtain ⟨vs, e1, ps⟩ := r3 _ _ e
  have fr3 := ((s.fr.next f1).next f2).next f3
  have tt : TupS X.K H3 (upd H3 p (.lst (vs.set j v2))) := .lst e1
  have ff := fr3.put (u := .lst (vs.set j v2)) e (.lst (ds.set j d2))
  refine ⟨p, vs, k, j, rfl, rfl, e1, by rw [← ps.length]; exact ej, rfl, ?_⟩
  exact g.nx (ρ.set i (some d1)) _ _ _ q3 (((t1.trans t2).trans t3).trans tt) (((f1.trans f2).trans f3).trans ff) (((s1.next t2 f2 r2).next t3 f3 r3).next tt ff (r3.put e ⟨_, upd_same, (ps.set (rv2.stay (t2.trans t3)) j).stay tt⟩))
end
end DL

set_option Elab.async false
set_option linter.all false
set_option maxRecDepth 100000
set_option maxHeartbeats 8000000
/-! DLy7: dict(d) of a dict whose keys are tuples; a dict told outright. -/
namespace DL
open PySem L2
section
variable {prog : Program} {w : World} {κ : Type} [DecidableEq κ] {knd : HeapKind prog w κ} {A : Around} {E0 : Value → Shared → Prop} {s : Shared}
theorem callH_dict {o : Addr} {more : List (κ × Addr × Value)} {Q : Value → Shared → Prop} (hu : knd.room A.in1.in1) (hoS : (o == sysModules) = false) (ne : s.heap.objs.size ≠ o) (hap : (more.map fun x => knd.hash x.1).Nodup) (hsz : more.length ≤ sizeLine)
    (ho2 : (s.heap.push { cls := .type "dict", data := .dict #[] }).DictOfH knd o more) (hty2 : ∀ x ∈ more, ({ s with heap := s.heap.push { cls := .type "dict", data := .dict #[] } } : Shared).TypeIs (.ref x.2.1) "tuple")
    (h : ∀ h', h'.DictOfH knd s.heap.objs.size (storedAllH [] more) → Heap.SameBut s.heap.objs.size (s.heap.push { cls := .type "dict", data := .dict #[] }) h' → Q (.ref s.heap.objs.size) { s with heap := h' }) :
    wpAny (model prog w) A (call (.type "dict") [.ref o]) Q E0 s := by
  have hnew : (s.heap.push { cls := .type "dict", data := .dict #[] }).DictOfH knd s.heap.objs.size [] := .new s.heap
  refine callType_codes (Q₁ := fun x t => x = .ref s.heap.objs.size ∧ t = { s with heap := s.heap.push { cls := .type "dict", data := .dict #[] } }) F.kt_called_dict (F.kt_typeCall_dict_1 _) F.entry_dict_init (kt_code_dict_new _ ⟨rfl, rfl⟩) fun x t hx => ?_
  obtain ⟨rfl, rfl⟩ := hx
  refine ⟨hnew.typeIs, F.args_dict_init_2 _ _, ?_⟩
  unfold Builtin.«dict.__init__» Builtin.Dict.selfAndRest
  refine wpAny_bind (wpAny_bind (wpAny_notOrdered_dict hnew.typeIs (wpAny_pure ?_)))
  exact updateFrom_dictH .none hu ne hoS hnew ho2 (.inr ⟨hty2, hap⟩) (by simpa using hsz) fun h' d1 _ sb => ⟨rfl, h h' d1 sb⟩
end
section
variable {X : Cx} {P : Program} {w : World}
def hashX (P : Program) (w : World) (ks : List Key) : Int := (tupleKind (mixKind P w)).hash ks
def dcpS (P : Program) (w : World) : Spec := fun ds M Q => ∃ p kvs, ds = [.ref p] ∧ M p = some (.dX P w kvs) ∧ kvs.length ≤ sizeLine ∧ (kvs.map fun q => hashX P w q.1).Nodup ∧ ∀ q, M q = none → Q (.ref q) (up M q (.dX P w kvs))
theorem cd_dcp (eP : P = X.prog) (ew : w = X.w) (hu : Ru X) : CallR X (.type "dict") (rDL X.K (dcpS P w)) := fun pins s σ H xs us Q I rv h => by
  subst eP
  subst ew
  have hu1 : X.A.units + 1 + 1 < cLine := Nat.lt_of_le_of_lt (by omega) hu
  obtain ⟨ds, M, F, Q0, r1, m, fr, ⟨p, kvs, rfl, e, hz, hh, q⟩, g⟩ := h
  obtain ⟨v, rfl, rr⟩ := r1.one
  cases rr
  obtain ⟨u, rfl, ru⟩ := vals1 rv
  obtain rfl : u = Value.ref p := ru
  obtain ⟨xs, ex, ps⟩ := m _ _ e
  have hn : H s.heap.objs.size = none := I.hok.fresh (Nat.le_refl _)
  have npz : p ≠ s.heap.objs.size := fun z => by rw [z, hn] at ex; cases ex
  have I' := I.laid (a := s.heap.objs.size) (o := (DcK.t X.prog X.w).u0 s.heap.objs.size) (t' := s.toks) (fun _ _ q => Heap.get?_push_of_some _ q) (Nat.le_refl _) (emp_ok (.t X.prog X.w) ⟨rfl, rfl⟩ _ s.heap I.big)
  have tn : TupS X.K H (upd H s.heap.objs.size ((DcK.t X.prog X.w).u0 s.heap.objs.size)) := .new hn
  have ps' := ps.stay tn
  have ex' : (upd H s.heap.objs.size ((DcK.t X.prog X.w).u0 s.heap.objs.size)) p = some (.ext (TD X.prog X.w p xs)) := by rw [upd_ne npz]; exact ex
  obtain ⟨hsm, ys, f, dd⟩ := td_dict I' ex' ps'.sq
  obtain ⟨fk, fl, fm⟩ := fit_keys f
  have ek : kvs.map Prod.fst = xs.map fun x => x.1 := ps.keys
  have el : kvs.length = xs.length := by have := congrArg List.length ek; simpa using this
  have eh : ys.map (fun x => (tupleKind (mixKind X.prog X.w)).hash x.1) = kvs.map fun q => hashX X.prog X.w q.1 := by
    have e1 : ys.map (fun x => (tupleKind (mixKind X.prog X.w)).hash x.1) = (ys.map fun x => x.1).map (hashX X.prog X.w) := by rw [List.map_map]; rfl
    have e2 : (kvs.map fun q => hashX X.prog X.w q.1) = (kvs.map Prod.fst).map (hashX X.prog X.w) := by rw [List.map_map]; rfl
    rw [e1, e2, ek, fk]
  refine callH_dict (knd := tupleKind (mixKind X.prog X.w)) hu1 hsm npz.symm (by rw [eh]; exact hh) (by rw [← fl, ← el]; exact hz) dd (fun x hx => ?_) fun h' d1 sb => ?_
  · obtain ⟨y, hy, e1, e2⟩ := fm x hx
    obtain ⟨its, _, it, _⟩ := I'.tuple (ps'.sq y hy)
    rw [e2] at it
    exact it.typeIs
  · rw [storedAllH_nil_of_nodup _ dd.nodup] at d1
    obtain ⟨o', es, ep, hq, h2, h3, h4, _, h5⟩ := d1
    have hm : (s.heap.objs.size == sysModules) = false := beq_eq_false_iff_ne.mpr (Nat.ne_of_gt I.big)
    refine ⟨.ref s.heap.objs.size, upd H s.heap.objs.size (.ext (TD X.prog X.w s.heap.objs.size xs)), I.laid (t' := s.toks) (fun b u e => (sb.2 b (Nat.ne_of_lt (Heap.lt_size e))).trans (Heap.get?_push_of_some _ e)) (Nat.le_refl _) (td_ok ⟨hm, ys, f, o', es, ep, hq, h2, h3, h4, h5⟩), rfl, ?_⟩
    exact g _ _ _ _ (q _ (m.none hn)) (.new hn) (fr.new hn _) (m.new hn ⟨xs, upd_same, ps.stay (.new hn)⟩) rfl
/-! ### {"a": 1, ..} -/
def ckB : Key → Expr → Bool
  | .inl i, .Constant (.int j) _ _ => decide (i = j)
  | .inr x, .Constant (.str y) _ _ => decide (x = y)
  | _, _ => false
def cvB : D → Expr → Bool
  | .int i, .Constant (.int j) _ _ => decide (i = j)
  | .str x, .Constant (.str y) _ _ => decide (x = y)
  | .bl x, .Constant (.bool y) _ _ => decide (x = y)
  | _, _ => false
def dlB : List (Key × D) → List (Option Expr) → List Expr → Bool
  | [], [], [] => true
  | (k, d) :: kvs, some x :: xs, y :: ys => ckB k x && (cvB d y && dlB kvs xs ys)
  | _, _, _ => false
def cV : D → V
  | .int i => .int i
  | .str x => .str x
  | .bl x => .bl x
  | _ => .non
theorem ck_pe {k : Key} {x : Expr} (h : ckB k x = true) : PE X x (tC (kV k)) := by
  unfold ckB at h
  split at h
  · obtain rfl := of_decide_eq_true h; exact pe_int
  · obtain rfl := of_decide_eq_true h; exact pe_str
  · cases h
theorem cv_pe {d : D} {x : Expr} (h : cvB d x = true) : PE X x (tC (cV d)) ∧ ∀ K H, Rep K H d (cV d) := by
  unfold cvB at h
  split at h
  · obtain rfl := of_decide_eq_true h; exact ⟨pe_int, fun K H => by unfold Rep; rfl⟩
  · obtain rfl := of_decide_eq_true h; exact ⟨pe_str, fun K H => by unfold Rep; rfl⟩
  · obtain rfl := of_decide_eq_true h; exact ⟨pe_bl, fun K H => by unfold Rep; rfl⟩
  · cases h
def dlT (kvs : List (Key × D)) : List (TE × TE) := kvs.map fun p => (tC (kV p.1), tC (cV p.2))
theorem dl_pps {pos : Pos} : ∀ {kvs : List (Key × D)} {xs : List (Option Expr)} {ys : List Expr}, dlB kvs xs ys = true → PPs X pos xs ys (dlT kvs) ∧ xs.all (·.isSome) = true ∧ xs.length = ys.length ∧ xs.length = kvs.length ∧ ∀ K H, Pairs K H kvs (kvs.map fun p => (p.1, cV p.2))
  | [], [], [], _ => ⟨pps_nil, rfl, rfl, rfl, fun _ _ => by unfold Pairs; rfl⟩
  | (k, d) :: kvs, some x :: xs, y :: ys, h => by
    unfold dlB at h
    rw [Bool.and_eq_true, Bool.and_eq_true] at h
    obtain ⟨h1, h2, h3⟩ := h
    obtain ⟨a, b, c, e, f⟩ := dl_pps (pos := pos) h3
    obtain ⟨p1, p2⟩ := cv_pe (X := X) h2
    exact ⟨pps_cons (ck_pe h1) p1 a, by simpa using b, by simp [c], by simp [e], fun K H => by unfold Pairs; exact ⟨_, _, rfl, p2 K H, f K H⟩⟩
theorem dl_pairs : ∀ (kvs : List (Key × D)) {σ : L2.St} {H : Hp} {Q : List (V × V) → Hp → Prop}, Q (kvs.map fun p => (kV p.1, cV p.2)) H → tPairs (dlT kvs) σ H Q
  | [], _, _, _, h => h
  | (k, d) :: kvs, _, _, _, h => by
    unfold dlT
    rw [List.map_cons]
    exact dl_pairs kvs h
def wDlit (kvs : List (Key × D)) : WE := fun _ M Q => ∀ p, M p = none → Q (.ref p) (up M p (.dK kvs))
def dlitOk (kvs : List (Key × D)) : Bool := decide (kvs.map Prod.fst).Nodup && decide (kvs.length ≤ 15) && !kvs.isEmpty
theorem pd_dlit {kvs : List (Key × D)} {xs : List (Option Expr)} {ys : List Expr} {pos : Pos} (h : dlB kvs xs ys = true) (ok : dlitOk kvs = true) : PE X (.Dict xs ys pos) (tD X.K (wDlit kvs)) := by
  obtain ⟨a, b, c, e, f⟩ := dl_pps (X := X) (pos := pos) h
  unfold dlitOk at ok
  rw [Bool.and_eq_true, Bool.and_eq_true] at ok
  obtain ⟨⟨o1, o2⟩, o3⟩ := ok
  have o1 := of_decide_eq_true o1
  have o2 := of_decide_eq_true o2
  refine (pe_disp a b c (fun z => by subst z; cases kvs with | nil => simp at o3 | cons _ _ => simp at e) (by omega)).imp fun σ H Q => ?_
  rintro ⟨ρ, M, F, Q0, s, q, g⟩ p hp
  refine dl_pairs kvs ⟨upd_same, kvs.map fun p => (p.1, cV p.2), by rw [List.map_map]; rfl, by rw [List.length_map]; exact o2, ?_⟩
  rw [merge_new _ [] (by rw [List.nil_append, List.map_map]; exact o1), List.nil_append]
  have hu : upd (upd H p (.dK [])) p (.dK (kvs.map fun p => (p.1, cV p.2))) = upd H p (.dK (kvs.map fun p => (p.1, cV p.2))) := by
    funext z
    unfold upd
    by_cases e : z = p <;> simp [e]
  rw [hu]
  exact g _ _ _ _ (q p (s.rm.none hp)) (.new hp) (s.fr.new hp _) (s.rm.new hp ⟨_, upd_same, f _ _⟩) rfl
end
end DL

set_option Elab.async false
set_option linter.all false
set_option maxRecDepth 100000
set_option maxHeartbeats 8000000
/-! DLy8: o[i], x = (.., ..) of lists and dicts; d.update(d2); xs.index(y). -/
namespace DL
open PySem PySem.Spec PyProof.Rows L2
variable {K : PySem.W.Frag}
section
variable {X : Cx} {a z b : Expr} {wa wz wb : WE}
/-- o[i], x = e: o a list -/
def wParJ (i : Nat) (wo wi we : WE) : WS := fun D0 ρ M => we ρ M fun d M1 => ∃ d1 d2, d = .tup [d1, d2] ∧ wo ρ M1 fun x M2 => wi ρ M2 fun y M3 => ∃ p ds k j, x = .ref p ∧ y = .int k ∧ M3 p = some (.lst ds) ∧ ixN ds.length k = some j ∧ D0.nx (ρ.set i (some d2)) (up M3 p (.lst (ds.set j d1)))
theorem psd_parJ {i : Nat} {x : Str} {kt : Nat} {px pp pt pos : Pos} (hc : X.calm = true) (hg : PG X (.Name x px) (gName i)) (ho : PE X a (tD X.K wa)) (hz : PE X z (tD X.K wz)) (he : PE X b (tD X.K wb)) (hns : notSlice z = true)
    (hs : swapsWithSole [.Tuple [.Subscript a z pp, .Name x px] kt pt] b pos.line X.env = pure false) (hw : swappedStores [.Tuple [.Subscript a z pp, .Name x px] kt pt] b X.env = pure none) :
    PS X (.Assign [.Tuple [.Subscript a z pp, .Name x px] kt pt] b pos) (tDS X.K (wParJ i wa wz wb)) := by
  have hsub : PG X (.Subscript a z pp) (gSub (tD X.K wa) (tD X.K wz) rSetL) := pg_sub ho hz set_list (by intro v; cases z <;> first | rfl | cases hns)
  refine (ps_asg he (pg_tup hc (pgs_cons hsub (pgs_cons hg pgs_nil))) hs hw rfl).imp fun D σ H => ?_
  rintro ⟨ρ, M, F, D0, s, q, g⟩
  refine ⟨ρ, M, F, _, s, q, fun d M1 v H1 q1 t1 f1 r1 p1 => ?_⟩
  obtain ⟨d1, d2, rfl, q1⟩ := q1
  unfold Rep at p1
  obtain ⟨c, ws, rfl, h1, h2⟩ := p1
  obtain ⟨v1, v2, rfl, rv1, rv2⟩ := h2.two
  have s1 := s.next t1 f1 r1
  refine ⟨c, _, rfl, h1, rfl, v1, _, rfl, ρ, M1, F, _, s1, q1, fun x M2 u H2 q2 t2 f2 r2 p2 => ⟨ρ, M2, F, _, s1.next t2 f2 r2, q2, fun y M3 w H3 q3 t3 f3 r3 p3 => ?_⟩⟩
  obtain ⟨p, ds, k, j, rfl, rfl, e, ej, q3⟩ := q3
  cases p2
  cases p3
  obtain ⟨vs, e1, ps⟩ := r3 _ _ e
  have fr3 := ((s.fr.next f1).next f2).next f3
  have tt : TupS X.K H3 (upd H3 p (.lst (vs.set j v1))) := .lst e1
  have ff := fr3.put (u := .lst (vs.set j v1)) e (.lst (ds.set j d1))
  refine ⟨p, vs, k, j, rfl, rfl, e1, by rw [← ps.length]; exact ej, v2, _, rfl, rfl, ?_⟩
  exact g.nx (ρ.set i (some d2)) _ _ _ q3 (((t1.trans t2).trans t3).trans tt) (((f1.trans f2).trans f3).trans ff) ((((s1.next t2 f2 r2).next t3 f3 r3).next tt ff (r3.put e ⟨_, upd_same, (ps.set (rv1.stay (t2.trans t3)) j).stay tt⟩)).set (rv2.stay (((t2.trans t3).trans tt))) i)
/-- o[i], x = e: o a dict -/
def wParK (kd : DcK) (i : Nat) (wo wi we : WE) : WS := fun D0 ρ M => we ρ M fun d M1 => ∃ d1 d2, d = .tup [d1, d2] ∧ wo ρ M1 fun x M2 => wi ρ M2 fun z M3 => ∃ p o o', x = .ref p ∧ M3 p = some o ∧ kd.is o ∧ dlen o < sizeLine ∧ dstore z d1 o = some o' ∧ D0.nx (ρ.set i (some d2)) (up M3 p o')
theorem psd_parK (kd : DcK) (okd : kd.ok X) (hu : Ru X) {i : Nat} {x : Str} {kt : Nat} {px pp pt pos : Pos} (hc : X.calm = true) (hg : PG X (.Name x px) (gName i)) (ho : PE X a (tD X.K wa)) (hi : PE X z (tD X.K wz)) (he : PE X b (tD X.K wb)) (hns : notSlice z = true)
    (hs : swapsWithSole [.Tuple [.Subscript a z pp, .Name x px] kt pt] b pos.line X.env = pure false) (hw : swappedStores [.Tuple [.Subscript a z pp, .Name x px] kt pt] b X.env = pure none) :
    PS X (.Assign [.Tuple [.Subscript a z pp, .Name x px] kt pt] b pos) (tDS X.K (wParK kd i wa wz wb)) := by
  have hsub : PG X (.Subscript a z pp) (gSub (tD X.K wa) (tD X.K wz) (rSetX X.K kd)) := pg_sub ho hi (set_X kd okd hu) (by intro v; cases z <;> first | rfl | cases hns)
  refine (ps_asg he (pg_tup hc (pgs_cons hsub (pgs_cons hg pgs_nil))) hs hw rfl).imp fun D σ H => ?_
  rintro ⟨ρ, M, F, D0, s, q, g⟩
  refine ⟨ρ, M, F, _, s, q, fun d M1 v H1 q1 t1 f1 r1 p1 => ?_⟩
  obtain ⟨d1, d2, rfl, q1⟩ := q1
  unfold Rep at p1
  obtain ⟨c, ws, rfl, h1, h2⟩ := p1
  obtain ⟨v1, v2, rfl, rv1, rv2⟩ := h2.two
  have s1 := s.next t1 f1 r1
  refine ⟨c, _, rfl, h1, rfl, v1, _, rfl, ρ, M1, F, _, s1, q1, fun x M2 u H2 q2 t2 f2 r2 p2 => ⟨ρ, M2, F, _, s1.next t2 f2 r2, q2, fun z M3 w H3 q3 t3 f3 r3 p3 => ?_⟩⟩
  obtain ⟨p, o, o', rfl, e, ko, hz, es, q3⟩ := q3
  cases p2
  have p1' := rv1.stay (t2.trans t3)
  have eO := r3 _ _ e
  have fr3 := ((s.fr.next f1).next f2).next f3
  have key : ∃ u, kd.PtS X.K p w v1 H3 (upd H3 p u) ∧ RepO X.K (upd H3 p u) p o' := by
    have nt := eO.notup
    have ts : ∀ u, TupS X.K H3 (upd H3 p u) := fun u => .at_ nt
    cases kd with
    | k =>
      obtain ⟨kvs, rfl⟩ := ko
      obtain ⟨vs, e1, ps⟩ := eO
      cases ek : keyD z with
      | none => simp only [dstore, ek] at es; cases es
      | some k =>
        simp only [dstore, ek] at es
        cases es
        obtain rfl := keyD_rep ek p3
        exact ⟨_, ⟨vs, k, rfl, e1, by rw [← ps.length]; exact hz, rfl⟩, _, upd_same, (ps.putD p1').stay (ts _)⟩
    | t P w' =>
      obtain ⟨kvs, rfl⟩ := ko
      obtain ⟨xs, e1, ps⟩ := eO
      cases z <;> (try (simp only [dstore] at es; cases es; done))
      rename_i ds
      cases ek : keysD ds with
      | none => simp only [dstore, ek] at es; cases es
      | some k =>
        simp only [dstore, ek] at es
        cases es
        unfold Rep at p3
        obtain ⟨b, vs, rfl, sq, rs⟩ := p3
        have evs := keysD_reps ek rs
        subst evs
        have el : kvs.length = xs.length := by have := congrArg List.length ps.keys; simpa using this
        exact ⟨_, ⟨xs, k, b, rfl, e1, sq, ps.sq, by rw [← el]; exact hz, rfl⟩, _, upd_same, (ps.put sq p1').stay (ts _)⟩
  obtain ⟨u', pt', rO⟩ := key
  have tt : TupS X.K H3 (upd H3 p u') := .at_ eO.notup
  have ff := fr3.put (u := u') e o'
  refine ⟨p, _, rfl, pt', v2, _, rfl, rfl, ?_⟩
  exact g.nx (ρ.set i (some d2)) _ _ _ q3 (((t1.trans t2).trans t3).trans tt) (((f1.trans f2).trans f3).trans ff) ((((s1.next t2 f2 r2).next t3 f3 r3).next tt ff (r3.put e rO)).set (rv2.stay ((t2.trans t3).trans tt)) i)
end
/-! ### d.update(d2), the keys being tuples -/
def mergeL {κ : Type} [DecidableEq κ] (kvs more : List (κ × D)) : List (κ × D) := more.foldl (fun acc p => putL acc p.1 p.2) kvs
def mergeX (xs more : List (List Key × Addr × V)) : List (List Key × Addr × V) := more.foldl (fun acc p => putX acc p.1 p.2.1 p.2.2) xs
theorem TPs.merge {H : Hp} : ∀ {es : List (List Key × D)} {ds : List (List Key × D)} {xs ys : List (List Key × Addr × V)}, TPs K H ds xs → TPs K H es ys → TPs K H (mergeL ds es) (mergeX xs ys)
  | [], _, _, _, h, h' => by unfold TPs at h'; subst h'; exact h
  | (k, d) :: es, _, _, _, h, h' => by
    unfold TPs at h'
    obtain ⟨b, v, r, rfl, h0, h1, h2⟩ := h'
    unfold mergeL mergeX
    rw [List.foldl_cons, List.foldl_cons]
    exact TPs.merge (es := es) (h.put h0 h1) h2
abbrev FitX (p : List Key × Addr × V) (q : List Key × Addr × Value) : Prop := p.1 = q.1 ∧ p.2.1 = q.2.1 ∧ RelV p.2.2 q.2.2
theorem paired_merge {xs2 : List (List Key × Addr × V)} {ys2 : List (List Key × Addr × Value)} (f2 : Paired FitX xs2 ys2) : ∀ {xs : List (List Key × Addr × V)} {ys : List (List Key × Addr × Value)}, Paired FitX xs ys → Paired FitX (mergeX xs xs2) (storedAllH ys ys2) := by
  induction f2 with
  | nil => intro xs ys f; exact f
  | @cons x y xs2 ys2 h t ih =>
    intro xs ys f
    unfold mergeX storedAllH
    rw [List.foldl_cons, List.foldl_cons, h.1, h.2.1]
    exact ih (paired_put h.2.2 f)
section
variable {X : Cx} {a b : Expr} {wa wb : WE} {pos apos : Pos}
def updX (P : Program) (w : World) : D → D → Mp → DQ → Prop := fun x y M Q => ∃ p q kvs more, x = .ref p ∧ y = .ref q ∧ p ≠ q ∧ M p = some (.dX P w kvs) ∧ M q = some (.dX P w more) ∧ (kvs ≠ [] ∨ (more.map fun e => hashX P w e.1).Nodup) ∧ kvs.length + more.length ≤ sizeLine ∧ Q .non (up M p (.dX P w (mergeL kvs more)))
def wUpdX (P : Program) (w : World) (wa wb : WE) : WE := fun ρ M Q => wa ρ M fun x M1 => (∃ p kvs, x = .ref p ∧ M1 p = some (.dX P w kvs)) ∧ wb ρ M1 fun y M2 => updX P w x y M2 Q
theorem pd_updX {P : Program} {w : World} (eP : P = X.prog) (ew : w = X.w) (hu : Ru X) (ho : PE X a (tD X.K wa)) (hb : PE X b (tD X.K wb)) (hba : plainBase a = true) (hs : notStar b = true) (hline : (apos.endLine == pos.line) = true) :
    PE X (.Call (.Attribute a "update" apos) [b] [] pos) (tD X.K (wUpdX P w wa wb)) := ⟨fun pins s σ H Q I h => by
  subst eP ew
  have hu1 : X.A.units + 1 < cLine := by have := hu; omega
  obtain ⟨ρ, M, F, Q0, st, q, g⟩ := h
  have hss : ([b] : List Expr).all notStar = true := by rw [List.all_cons, hs]; rfl
  refine wpAny_Call_method_late (base_plain hba _ _ _) (form_of hss (by show 1 < 30; decide)) hline rfl (thn (ho.run pins s σ H (fun v H1 => ∃ d1 M1, ((∃ p kvs, d1 = .ref p ∧ M1 p = some (.dX X.prog X.w kvs)) ∧ wb ρ M1 fun y M2 => updX X.prog X.w d1 y M2 Q0) ∧ TupS X.K H H1 ∧ Frm F H H1 M1 ∧ RepM X.K H1 M1 ∧ Rep X.K H1 d1 v) I ⟨ρ, M, F, _, st, q, fun x M1 v H1 q1 t1 f1 r1 p1 => ⟨x, M1, q1, t1, f1, r1, p1⟩⟩) fun v s1 hh => ?_)
  obtain ⟨x, H1, I1, rx, d1, M1, ⟨⟨p, kvs, e1, e2⟩, q1⟩, t1, f1, r1, p1⟩ := hh
  subst e1
  cases p1
  cases (show v = Value.ref p from rx)
  obtain ⟨xs, ex, ps⟩ := r1 _ _ e2
  obtain ⟨hsm, ys, f, dd⟩ := td_dict I1 ex ps.sq
  have ty := dd.typeIs
  refine ⟨"dict", "dict.update", PySem.F.plainAttrs_dict, PySem.F.slot_dict_update, PySem.F.type_dict_update, ty, fun a' ea => ?_, ?_⟩
  · cases ea
    obtain ⟨o, es, ep, ho', hx, _⟩ := dd
    exact ⟨o, ho', hx.2.1⟩
  · have hA := (pa_cons hb pa_nil (star_of hs _ _)).run pos pins s1 σ H1 (fun vs H2 => ∃ y M2 v2, vs = [v2] ∧ updX X.prog X.w (.ref p) y M2 Q0 ∧ TupS X.K H1 H2 ∧ Frm F H1 H2 M2 ∧ RepM X.K H2 M2 ∧ Rep X.K H2 y v2) I1 ⟨ρ, M1, F, _, st.next t1 f1 r1, q1, fun y M2 v2 H2 q2 t2 f2 r2 p2 => ⟨y, M2, v2, rfl, q2, t2, f2, r2, p2⟩⟩
    rw [star_of hs _ _] at hA ⊢
    refine Calls.callWith_builtin (by rfl) (Calls.evalArgs_plain ?_)
    refine thn hA fun us s2 ⟨vs, H2, I2, r2', y, M2, v2, ev, q2, t2, f2, r2, p2⟩ => ?_
    subst ev
    obtain ⟨u, rfl, ru⟩ := Vals.one r2'
    obtain ⟨p', o, kvs2, more, e3, rfl, hne, e4, e5, hap, hz, q2⟩ := q2
    cases e3
    cases p2
    cases (show u = Value.ref o from ru)
    obtain ⟨xs2, ex2, ps2⟩ := r2 _ _ e4
    obtain ⟨xs3, ex3, ps3⟩ := r2 _ _ e5
    obtain ⟨hsm2, ys2, g2, dd2⟩ := td_dict I2 ex2 ps2.sq
    obtain ⟨hsm3, ys3, g3, dd3⟩ := td_dict I2 ex3 ps3.sq
    have eln : kvs2.length = xs2.length := by have := congrArg List.length ps2.keys; simpa using this
    have el2 : xs2.length = ys2.length := (fit_keys g2).2.1
    have eln3 : more.length = xs3.length := by have := congrArg List.length ps3.keys; simpa using this
    obtain ⟨fk, el3, fm⟩ := fit_keys g3
    have eh : ys3.map (fun x => (tupleKind (mixKind X.prog X.w)).hash x.1) = more.map fun q => hashX X.prog X.w q.1 := by
      have e1 : ys3.map (fun x => (tupleKind (mixKind X.prog X.w)).hash x.1) = (ys3.map fun x => x.1).map (hashX X.prog X.w) := by rw [List.map_map]; rfl
      have e2 : (more.map fun q => hashX X.prog X.w q.1) = (more.map Prod.fst).map (hashX X.prog X.w) := by rw [List.map_map]; rfl
      rw [e1, e2, ps3.keys, fk]
    refine call_update_dictH (tupleKind_room_in1 hu1) hne hsm3 dd2 dd3 ?_ (by rw [← el2, ← eln, ← el3, ← eln3]; exact hz) (fun h' dd' _ hs' => ?_)
    · rcases hap with hap | hap
      · refine .inl fun e => hap ?_
        subst e
        have : kvs2.length = 0 := by rw [eln, el2]; rfl
        exact List.eq_nil_of_length_eq_zero this
      · refine .inr ⟨fun x hx => ?_, by rw [eh]; exact hap⟩
        obtain ⟨y, hy, e1, e2⟩ := fm x hx
        obtain ⟨its, _, it, _⟩ := I2.tuple (ps3.sq y hy)
        rw [e2] at it
        exact it.typeIs
    · obtain ⟨o', es, ep, hq, h2, h3, h4, _, h5⟩ := dd'
      have nt := (r2 _ _ e4).notup
      have tt : TupS X.K H2 (upd H2 p (.ext (TD X.prog X.w p (mergeX xs2 xs3)))) := .at_ nt
      have ff := ((st.fr.next f1).next f2).put (u := .ext (TD X.prog X.w p (mergeX xs2 xs3))) e4 (.dX X.prog X.w (mergeL kvs2 more))
      refine ⟨.non, _, d_write I2 (by rw [ex2]; exact True.intro) hs' ⟨o', hq⟩ (td_ok ⟨hsm2, _, paired_merge g3 g2, o', es, ep, hq, h2, h3, h4, h5⟩), rfl, ?_⟩
      exact g _ _ _ _ q2 ((t1.trans t2).trans tt) ((f1.trans f2).trans ff) (r2.put e4 ⟨_, upd_same, (ps2.merge ps3).stay tt⟩) rfl⟩
end
end DL

set_option Elab.async false
set_option linter.all false
set_option maxRecDepth 100000
set_option maxHeartbeats 8000000
/-! DLy9: xs.index(y) of lists and tuples, l.pop(i), l.count(y). -/
namespace DL
open PySem PySem.Spec PyProof.Rows L2
variable {K : PySem.W.Frag}
section
variable {X : Cx}
/-- the first place at which a thing stands -/
def indexM : MSpec := fun x ds M Q => ∃ es ps y p j z, seqD M x es ∧ Dats M es ps ∧ ds = [y] ∧ Dat M y p ∧ SeqAt.shaped (.list ps) = true ∧ SeqAt.shaped p = true ∧ ps[j]? = some z ∧ PyData.eqv z p = true ∧ (∀ (m : Nat) (z' : PyData), m < j → ps[m]? = some z' → PyData.eqv z' p = false) ∧ Q (.int (j : Nat)) M
theorem md_indexL (hu : Ru X) : MtR X "list.index" (rDM X.K fun x ds M Q => (∃ a, x = .ref a) ∧ indexM x ds M Q) := (mt_indexD hu).lift fun d ds M F H Q0 Q v vs r0 r1 m fr h g => by
  obtain ⟨⟨a, rfl⟩, es, ps, y, p, j, z, hs, hd, rfl, hy, s1, s2, e1, e2, e3, q⟩ := h
  rcases hs with hs | ⟨a', ea, hs⟩
  · cases hs
  · cases ea
    have dp : Dp X.K H v (.list ps) := (Dat.lst hs hd).dp m r0
    cases r0
    obtain ⟨u, rfl, r2⟩ := r1.one
    exact ⟨a, u, p, ps, j, z, rfl, rfl, dp, hy.dp m r2, s1, s2, e1, e2, e3, g _ M _ H q (.refl _) fr.frm m rfl⟩
end
section
variable {X : Cx}
/-! ### l.index(y), l.pop(i), l.count(y) -/
def indexL : MSpec := fun x ds M Q => (∃ a, x = .ref a) ∧ indexM x ds M Q
def popAtM : MSpec := fun x ds M Q => ∃ p xs i y, x = .ref p ∧ ds = [.int ((i : Nat) : Int)] ∧ M p = some (.lst xs) ∧ xs[i]? = some y ∧ xs.length ≤ sizeLine ∧ Q y (up M p (.lst (xs.eraseIdx i)))
theorem Reps.erase {H : Hp} : ∀ {ds : List D} {vs : List V} (n : Nat), Reps K H ds vs → Reps K H (ds.eraseIdx n) (vs.eraseIdx n)
  | [], _, _, h => by unfold Reps at h; subst h; exact .nil
  | d :: ds, _, 0, h => by
    unfold Reps at h
    obtain ⟨v, r, rfl, h1, h2⟩ := h
    exact h2
  | d :: ds, _, n + 1, h => by
    unfold Reps at h
    obtain ⟨v, r, rfl, h1, h2⟩ := h
    exact .cons h1 (h2.erase n)
theorem md_popAt : MtR X "list.pop" (rDM X.K popAtM) := MtR.lift (r := rPopAt) mt_popAt fun d ds M F H Q0 Q v vs r0 r1 m fr h g => by
  obtain ⟨p, xs, i, y, rfl, rfl, e, ey, hz, q⟩ := h
  cases r0
  obtain ⟨u, rfl, r2⟩ := r1.one
  cases r2
  obtain ⟨ws, e1, p1⟩ := m _ _ e
  obtain ⟨v, ev, rv⟩ := p1.get ey
  have hi : i < ws.length := (List.getElem?_eq_some_iff.mp ev).1
  have hl := p1.length
  have hs := sizeLine_eq
  refine ⟨p, ws, i, i, v, rfl, rfl, e1, by omega, by omega, ?_, ev, ?_⟩
  · unfold seqIndex?
    have e0 : ¬ ((i : Int) < 0) := by omega
    have e1 : (0 : Int) ≤ (i : Int) := by omega
    have e2 : (i : Int) < (ws.length : Int) := by omega
    simp [e0, e1, e2]
    try omega
  · exact g _ _ _ _ q (.lst e1) (fr.put e _) (m.put e ⟨_, upd_same, (p1.erase i).stay (.lst e1)⟩) (rv.stay (.lst e1))
def countM : MSpec := fun x ds M Q => ∃ a es ps y p, x = .ref a ∧ M a = some (.lst es) ∧ Dats M es ps ∧ ds = [y] ∧ Dat M y p ∧ SeqAt.shaped (.list ps) = true ∧ SeqAt.shaped p = true ∧ Q (.int ((ps.countP fun z => PyData.eqv z p : Nat) : Int)) M
theorem md_count (hu : Ru X) : MtR X "list.count" (rDM X.K countM) := fun pins s σ H x xs v us Q I rx rxs h => by
  obtain ⟨d0, ds, M, F, Q0, r0, r1, m, fr, ⟨a, es, ps, y, p, rfl, e, hd, rfl, hy, s1, s2, q⟩, g⟩ := h
  have dp : Dp X.K H x (.list ps) := (Dat.lst e hd).dp m r0
  cases r0
  obtain ⟨u, rfl, r2⟩ := r1.one
  have dy : Dp X.K H u p := hy.dp m r2
  cases rx
  cases rxs with
  | cons ry rt =>
    rename_i uy ut
    cases rt
    obtain ⟨bs, rr⟩ := Dp.reads I p u uy dy ry
    have hxs : PyData.canLayAll0 ps = true := SeqAt.canLay_of_shaped s1
    have hroom : X.A.units + 1 + min (PyData.depthAll ps) p.depth < cLine := room_in_shaped s2 hu
    cases dp with
    | lst hs ha =>
      obtain ⟨its, rv, ⟨⟨cls, dd, data, sls⟩, n, ho, hc, hdn, hdt⟩, hlen⟩ := I.list hs
      simp only at hc hdt
      subst hc hdt
      obtain ⟨as, h4⟩ := Dp.readsAll I ps _ its ha rv
      have hmap : its.map (SeqAt.readOf s.heap) = ps := SeqAt.readsAll_map ps its as hxs h4
      refine call_meets PySem.F.slot_list_count ⟨_, ho, rfl⟩ PySem.F.entry_list_count (PySem.F.args_list_count_2 _ _)
        (SeqAt.list_countAt a its.toArray n dd sls uy (fun w => PyData.eqv (SeqAt.readOf s.heap w) p)) ⟨ho, SeqAt.items_eqAt (vs := its.toArray) (show ReadsAll s.heap its.toArray.toList ps as from h4) rr hxs (SeqAt.canLay_of_shaped s2) hroom, ?_⟩
      have ec : its.toArray.toList.countP (fun w => PyData.eqv (SeqAt.readOf s.heap w) p) = ps.countP fun z => PyData.eqv z p := by
        rw [← hmap, List.countP_map]
        rfl
      refine ⟨.int (ps.countP fun z => PyData.eqv z p : Nat), H, I.tok _, ⟨s.toks, ?_⟩, g _ M _ H q (.refl _) fr.frm m rfl⟩
      show Value.int ((its.toArray.toList.countP _ : Nat) : Int) s.toks = Value.int ((ps.countP _ : Nat) : Int) s.toks
      rw [ec]
end
end DL

set_option Elab.async false
set_option linter.all false
set_option maxRecDepth 100000
set_option maxHeartbeats 8000000
/-! DLz: sorted(set(list of tuples of ints)). -/
namespace DL
open PySem PySem.Spec PyProof.Rows L2
variable {K : PySem.W.Frag}
section
variable {X : Cx} {a : Expr} {wa : WE} {p1 p2 pos1 pos : Pos}
theorem Reps.intsT {H : Hp} : ∀ {ns : List Int} {vs : List V}, Reps K H (ns.map D.int) vs → vs = ns.map V.int
  | [], _, h => by unfold Reps at h; exact h
  | n :: ns, _, h => by
    rw [List.map_cons] at h
    unfold Reps at h
    obtain ⟨v, r, rfl, h1, h2⟩ := h
    cases h1
    rw [Reps.intsT h2]
    rfl
theorem tups_reps {H : Hp} : ∀ {L : List (List Int)} {vs : List V}, Reps K H (L.map fun l => .tup (l.map D.int)) vs → ∃ ks : List (Addr × List Int), vs = ks.map (fun p => V.ref p.1) ∧ ks.map (·.2) = L ∧ ∀ p ∈ ks, SqT K H p.1 (p.2.map V.int)
  | [], _, h => by unfold Reps at h; subst h; exact ⟨[], rfl, rfl, fun _ h => nomatch h⟩
  | l :: L, _, h => by
    rw [List.map_cons] at h
    unfold Reps at h
    obtain ⟨v, r, rfl, h1, h2⟩ := h
    obtain ⟨ks, rfl, e, hk⟩ := tups_reps h2
    unfold Rep at h1
    obtain ⟨b, ws, rfl, h3, h4⟩ := h1
    have := h4.intsT
    subst this
    refine ⟨(b, l) :: ks, rfl, by rw [List.map_cons, e], fun p hp => ?_⟩
    rcases List.mem_cons.mp hp with rfl | hp
    · exact h3
    · exact hk p hp
theorem reps_tups {H : Hp} : ∀ {ks : List (Addr × List Int)}, (∀ p ∈ ks, SqT K H p.1 (p.2.map V.int)) → Reps K H ((ks.map (·.2)).map fun l => .tup (l.map D.int)) (ks.map fun p => V.ref p.1)
  | [], _ => .nil
  | (b, l) :: ks, h => by
    rw [List.map_cons, List.map_cons, List.map_cons]
    refine .cons ?_ (reps_tups fun p hp => h p (List.mem_cons_of_mem _ hp))
    unfold Rep
    exact ⟨b, _, rfl, h _ List.mem_cons_self, Reps.ints l⟩
/-- tuples of d ints from 0 to B, each once, rising -/
def ssT : D → Mp → DQ → Prop := fun x M Q => ∃ (a : Addr) (L : List (List Int)) (d : Nat) (B : Int), x = .ref a ∧ M a = some (.lst (L.map fun l => .tup (l.map D.int))) ∧ L.length < 64 ∧ 1 ≤ d ∧ (∀ l ∈ L, l.length = d ∧ TS.Bd B l) ∧
  ∀ (out : List (List Int)) (p : Addr), out.Nodup → (∀ l, l ∈ out ↔ l ∈ L) → out.Pairwise (fun q r => TS.code B q ≤ TS.code B r) → M p = none → Q (.ref p) (up M p (.lst (out.map fun l => .tup (l.map D.int))))
theorem pd_ssT (hc : X.calm = true) (hu : Ru X) (hg : Gl X "sorted") (hm : X.mg "sorted" = none) (hg2 : Gl X "set") (hm2 : X.mg "set" = none) (ha : PE X a (tD X.K wa)) (hs : notStar a = true) :
    PE X (.Call (.Name "sorted" p1) [.Call (.Name "set" p2) [a] [] pos1] [] pos) (tD X.K (w1 ssT wa)) := by
  have h1 := pe_callTy (p := p2) (pos := pos1) (cr_setOfT hc (by have := hu; omega)) hg2 hm2 (by decide +kernel) (pa_cons ha pa_nil (star_of hs _ _)) (he := star_of hs _ _)
  refine (pe_callB (p := p1) (pos := pos) (cr_sortedT hc) hg hm PyProof.Rows.boot_sorted (pa_cons h1 pa_nil)).imp fun σ H Q => ?_
  rintro ⟨ρ, M, F, Q0, s, q, g⟩
  refine ⟨ρ, M, F, _, s, q, fun x M1 v H1 q1 t1 f1 r1 p1 => ?_⟩
  obtain ⟨a, L, d, B, rfl, e, hz, hd, hB, q1⟩ := q1
  cases p1
  obtain ⟨vs, e1, rr⟩ := r1 _ _ e
  obtain ⟨ks, rfl, ek, hk⟩ := tups_reps rr
  have zk : ks.length = L.length := by rw [← ek, List.length_map]
  refine ⟨a, ks, rfl, .of e1, hk, by omega, fun b S hb hS1 hS2 => ?_⟩
  have tb : TupS X.K H1 (upd H1 b (SetTO X.prog X.w b S)) := .new hb
  refine ⟨b, S, d, B, rfl, upd_same, fun p hp => tb _ _ (hk p (hS1 p hp)), hd, fun p hp => hB p.2 (by rw [← ek]; exact List.mem_map_of_mem (hS1 p hp)), fun S' p hS' nd hl hpw hp => ?_⟩
  have tp : TupS X.K (upd H1 b (SetTO X.prog X.w b S)) (upd (upd H1 b (SetTO X.prog X.w b S)) p (.lst (S'.map fun q => V.ref q.1))) := .new hp
  have mem : ∀ l, l ∈ S'.map (·.2) ↔ l ∈ L := fun l => by
    constructor
    · intro h
      obtain ⟨q, hq, rfl⟩ := List.mem_map.mp h
      rw [← ek]
      exact List.mem_map_of_mem (hS1 q (hS'.mem_iff.mp hq))
    · intro h
      rw [← ek] at h
      obtain ⟨q, hq, rfl⟩ := List.mem_map.mp h
      obtain ⟨q2, hq2, e2⟩ := List.mem_map.mp (hS2 q hq)
      rw [← e2]
      exact List.mem_map_of_mem (hS'.mem_iff.mpr hq2)
  have hp1 : H1 p = none := by
    by_cases e : p = b
    · rw [e]; exact hb
    · rw [upd_ne e] at hp; exact hp
  have m1 : RepM X.K (upd H1 b (SetTO X.prog X.w b S)) M1 := r1.more hb
  have f2 : Frm F H1 (upd H1 b (SetTO X.prog X.w b S)) M1 := (s.fr.next f1).more hb
  exact g _ _ _ _ (q1 (S'.map (·.2)) p nd mem (List.pairwise_map.mpr hpw) (r1.none hp1)) ((t1.trans tb).trans tp) ((f1.trans f2).trans (((s.fr.next f1).next f2).new hp _)) (m1.new hp ⟨_, upd_same, (reps_tups fun q hq => tp _ _ (tb _ _ (hk q (hS1 q (hS'.mem_iff.mp hq)))))⟩) rfl
end
end DL

set_option Elab.async false
set_option linter.all false
set_option maxRecDepth 100000
set_option maxHeartbeats 8000000
/-! DLz2: min(list of plain things). -/
namespace DL
open PySem PySem.Spec PyProof.Rows L2
variable {K : PySem.W.Frag}
section
variable {X : Cx}
def minPS : Spec := fun ds M Q => ∃ p d es, ds = [.ref p] ∧ M p = some (.lst (d :: es)) ∧ plains (d :: es) = true ∧ (PyData.list (pys (d :: es))).canLay0 = true ∧ PySem.W.AlikeAll (pys (d :: es)) ∧ PyData.depthAll (pys (d :: es)) ≤ 60 ∧ ∀ e ∈ d :: es, py e = PySem.W.minD (py d) (pys es) → Q e M
theorem plains_mem : ∀ {ds : List D} {d : D}, plains ds = true → d ∈ ds → plain d = true
  | [], _, _, h => nomatch h
  | x :: ds, d, h, hd => by
    unfold plains at h
    rw [Bool.and_eq_true] at h
    rcases List.mem_cons.mp hd with rfl | hd
    · exact h.1
    · exact plains_mem h.2 hd
theorem pys_mem : ∀ {ds : List D} {d : D}, d ∈ ds → py d ∈ pys ds
  | x :: ds, d, hd => by
    unfold pys
    rcases List.mem_cons.mp hd with rfl | hd
    · exact List.mem_cons_self
    · exact List.mem_cons_of_mem _ (pys_mem hd)
theorem lay_mem {ps : List PyData} (h : (PyData.list ps).canLay0 = true) {p : PyData} (hp : p ∈ ps) : p.canLay0 = true := by
  have h : PyData.canLayAll0 ps = true := by simpa [PyData.canLay0] using h
  induction ps with
  | nil => cases hp
  | cons x ps ih =>
    simp only [PyData.canLayAll0, Bool.and_eq_true] at h
    rcases List.mem_cons.mp hp with rfl | hp
    · exact h.1
    · exact ih (by simp [PyData.canLay0, h.2]) hp h.2
theorem cd_minP (hc : X.calm = true) (hu : Ru X) : CallR X (.builtin "min") (rDL X.K minPS) := fun pins s σ H xs us Q I rv h => by
  obtain ⟨ds, M, F, Q0, r1, m, fr, ⟨p, d, es, rfl, e, pl, ly, al, dp, q⟩, g⟩ := h
  obtain ⟨v, rfl, rr⟩ := r1.one
  cases rr
  obtain ⟨u, rfl, ru⟩ := vals1 rv
  obtain rfl : u = Value.ref p := ru
  obtain ⟨ws, e1, rs⟩ := m _ _ e
  obtain ⟨its, rvs, hl, hz⟩ := I.list (show SqL X.K H p ws from .of e1)
  have dall : DpAll X.K H ws (pys (d :: es)) := Dats.dp m (Dats.plain pl) rs
  obtain ⟨as, hr⟩ := Dp.readsAll I _ _ its dall rvs
  have ep : pys (d :: es) = py d :: pys es := by simp [pys]
  rw [ep] at hr al dp ly
  refine PySem.W.min_list_data (I.ok.hd hc) hl.isList (by simpa using hr) al (by have := hu; omega) fun i v h' tk bs hi r hk => ?_
  have hi' : its[i]? = some v := by simpa using hi
  have hl2 := rvs.length
  have hil : i < ws.length := by rw [hl2]; exact (List.getElem?_eq_some_iff.mp hi').1
  obtain ⟨x, hx⟩ : ∃ x, ws[i]? = some x := ⟨_, List.getElem?_eq_getElem hil⟩
  obtain ⟨u, hu1, hu2⟩ := rvs.get hx
  rw [hi'] at hu1
  cases hu1
  obtain ⟨e, he, re⟩ := rs.get' hx
  have hmem : e ∈ d :: es := List.mem_of_getElem? he
  have ple : plain e = true := plains_mem pl hmem
  obtain ⟨as', rd⟩ := Dp.reads I (py e) x v ((Dat.plain ple).dp m re) hu2
  have hlay : (py e).canLay0 = true := by
    refine lay_mem ly ?_
    rw [← ep]
    exact pys_mem hmem
  have eq : py e = PySem.W.minD (py d) (pys es) := SeqAt.Reads.unique _ _ _ _ _ hlay (Reads.keeps hk rd) r
  exact ⟨x, H, I.kept (t' := tk) hk, hu2, g e M x H (q e hmem eq) (.refl _) fr.frm m re⟩
end
end DL

set_option Elab.async false
set_option linter.all false
set_option maxRecDepth 100000
set_option maxHeartbeats 8000000
/-! DLz3: small pairs of numbers have unlike hashes. -/
namespace DL
open PySem PySem.Spec PyProof.Rows L2
def hs2 (i j : Nat) : Int := reduceHash (Builtin.Tuple.tupleHashOf [hashInt (i : Int), hashInt (j : Int)])
end DL

set_option Elab.async false
set_option linter.all false
set_option maxRecDepth 100000
set_option maxHeartbeats 8000000
/-! DLz4: tuple(range(a, b)). -/
namespace DL
open PySem L2
variable {K : PySem.W.Frag}
section
variable {X : Cx} {a b : Expr} {wa wb : WE} {pos : Pos}
def rg2D : D → D → Mp → DQ → Prop := fun x y M Q => ∃ i j : Int, x = .int i ∧ y = .int j ∧ -1000 ≤ i ∧ i ≤ 1000 ∧ -1000 ≤ j ∧ j ≤ 1000 ∧ Q (.tup (rngI i j)) M
theorem rng_reps2 {H : Hp} (i j : Int) : Reps K H (rngI i j) (rgV i j) := by
  have h := Reps.ints (K := K) (H := H) ((List.range (j - i).toNat).map fun k => i + ((k : Nat) : Int))
  rw [List.map_map, List.map_map] at h
  exact h
theorem pd_rg2 {p1 p2 pos1 : Pos} (hc : X.calm = true) (hg : Gl X "tuple") (hm : X.mg "tuple" = none) (hgr : Gl X "range") (hmr : X.mg "range" = none) (ha : PE X a (tD X.K wa)) (hb : PE X b (tD X.K wb)) (hs : notStar a = true) (hs2 : notStar b = true) :
    PE X (.Call (.Name "tuple" p1) [.Call (.Name "range" p2) [a, b] [] pos1] [] pos) (tD X.K (w2 rg2D wa wb)) := by
  have hr := prg_2 (p := p2) (pos := pos1) hgr hmr ha hb (star_of hs _ _) (star_of hs2 _ _) (by rw [star_of hs2 _ _]; rfl)
  refine (pe_tupRg (p := p1) (pos := pos) hc hg hm hr).imp fun σ H Q => ?_
  rintro ⟨ρ, M, F, Q0, s, q, g⟩
  refine ⟨ρ, M, F, _, s, q, fun x M1 v H1 q1 t1 f1 r1 p1 => ⟨ρ, M1, F, _, s.next t1 f1 r1, q1, fun y M2 u H2 q2 t2 f2 r2 p2 => ?_⟩⟩
  obtain ⟨i, j, rfl, rfl, i0, i1, j0, j1, q2⟩ := q2
  cases p1
  cases p2
  refine ⟨i, j, rfl, rfl, ⟨by omega, by omega, by omega, by omega, by omega⟩, fun p hp => ?_⟩
  exact g _ M2 _ _ q2 ((t1.trans t2).trans (.new hp)) ((f1.trans f2).trans (((s.fr.next f1).next f2).more hp)) (r2.more hp) (by unfold Rep; exact ⟨p, _, rfl, .of upd_same, rng_reps2 i j⟩)
end
end DL

set_option Elab.async false
set_option linter.all false
set_option maxRecDepth 100000
set_option maxHeartbeats 8000000
/-! DLz5: things put in another order; methods called by keywords. -/
namespace DL
open PySem PySem.Spec PyProof.Rows L2
variable {K : PySem.W.Frag}
/-- keywords in another order -/
def perm {α : Type} (ix : List Nat) (xs : List α) : List α := ix.filterMap fun i => xs[i]?
def permS (ix : List Nat) (S : Spec) : Spec := fun ds M Q => S (perm ix ds) M Q
theorem reps_perm {H : Hp} {ds : List D} {vs : List V} (r : Reps K H ds vs) : ∀ ix : List Nat, Reps K H (perm ix ds) (perm ix vs)
  | [] => .nil
  | i :: ix => by
    unfold perm
    rw [List.filterMap_cons, List.filterMap_cons]
    cases e : ds[i]? with
    | none =>
      have e2 : vs[i]? = none := by
        rw [List.getElem?_eq_none_iff] at e ⊢
        rw [← r.length]; exact e
      rw [e2]; exact reps_perm r ix
    | some d =>
      obtain ⟨v, e2, rv⟩ := r.get e
      rw [e2]; exact .cons rv (reps_perm r ix)
/-- a method by keywords alone -/
structure MethK (k : Co) (C : Addr) (m : Str) (ks : List Str) (S : Spec) : Prop where
  cl : Cls k.K C
  ex : ∃ (n : Nat) (f : Addr) (fd : FuncData) (ps : List Str) (ix : List Nat) (S0 : Spec), S = permS ix S0 ∧ FnOk k.prog k.w k.K k.mg k.base CX0 n f fd ps (spD k.K S0) ∧ Room n k.A ∧ KBn k.K fd ps 1 ks (fun us ws => perm ix (us ++ ws)) (fun vs zs => perm ix (vs ++ zs)) ∧ Meth k.K C m f
section
variable {X : Cx}
theorem ev_methK {o : Expr} (hb : plainBase o = true) {m : Str} {apos pos : Pos} {kws : List Keyword} {env : Env} (hf : methodCallForm (([] : List Expr).length + kws.length) (backTo pos (starEach [] env)) (backToKw pos (keywordEach kws env)) = true) (hline : (apos.endLine == pos.line) = true) : eval (.Call (.Attribute o m apos) [] kws pos) env = (do
      let ov ← eval o env
      standAt apos.atName
      let (f, first) ← holding [ov] (getMethod ov m (do return (← importBound o env).getD true))
      callWith pos f first (backTo pos (starEach [] env)) (backToKw pos (keywordEach kws env))) := by
  rw [arm_eval_Call, base_plain hb]
  unfold methodCall methodCallPos calleeOf
  rw [hf, hline]
  rfl
theorem pd_methK {C : Addr} {m : Str} {S : Spec} {o : Expr} {ks : List Str} {kws : List Keyword} {wo : WE} {uk : WA} {apos pos : Pos} (hM : MethK (co X) C m ks S) (ho : PE X o (tD X.K wo)) (hk : PK X kws (tDN X.K ks.length uk)) (hks : kwNames kws = ks.map some) (hl : kws.length < 20) (hb : plainBase o = true) (hline : (apos.endLine == pos.line) = true) :
    PE X (.Call (.Attribute o m apos) [] kws pos) (tD X.K (wMeth C m S wo uk)) := by
  obtain ⟨n, f, fd, ps, ix, S0, rfl, F, hr, hb', hm⟩ := hM.ex
  obtain ⟨a1, a2, a3⟩ := kw_all (env := X.env) (pos := pos) hks
  have hf : methodCallForm (([] : List Expr).length + kws.length) (backTo pos (starEach [] X.env)) (backToKw pos (keywordEach kws X.env)) = true := by
    unfold methodCallForm
    rw [a1]
    have : decide (([] : List Expr).length + kws.length + (if (backToKw pos (keywordEach kws X.env)).isEmpty then 0 else 1) < 30) = true := by
      apply decide_eq_true
      show 0 + kws.length + _ < 30
      split <;> omega
    rw [this]
    rfl
  refine ⟨fun pins s σ H Q I h => ?_⟩
  obtain ⟨ρ, M, F', Q0, s0, q, g⟩ := h
  refine PySem.W.methodCall_KW (thn (ho.run pins s σ H (fun v H1 => ∃ a dx fs, v = .ref a ∧ H1 a = some (.ins C dx fs) ∧ fs.lookup m = none ∧ tDN X.K ks.length uk σ H1 fun zs H2 => zs.length = ks.length ∧ spD X.K S0 (perm ix (v :: zs)) H2 Q E0) I ⟨ρ, M, F', _, s0, q, fun x M1 v H1 q1 t1 f1 r1 p1 => ?_⟩) fun u s1 ⟨x, H1, I1, rx, a, dx, fs, ex, ea, l, q⟩ => ?_) (ev_methK hb hf hline)
  · obtain ⟨a, fs, rfl, ea, hl, q1⟩ := q1
    obtain ⟨dx, vs, e1, ps⟩ := r1 _ _ ea
    refine ⟨a, dx, vs, p1, e1, ps.lookup_none hl, ρ, M1, F', _, s0.next t1 f1 r1, q1, fun es M2 zs H2 hl2 q2 t2 f2 r2 p2 => ⟨hl2, ?_⟩⟩
    exact ⟨_, M2, F', Q0, reps_perm (.cons (p1.stay t2) p2) ix, r2, (s0.fr.next f1).next f2, q2, (g.from t1 f1).from t2 f2⟩
  · subst ex
    obtain rfl : u = Value.ref a := rx
    refine getmeth_ok I1 ea hM.cl hm l ?_
    refine PySem.W.callWith_KW0 (first := [.ref a]) (h₀ := X.base) I.ok.mod.kin hm.kp a1 (thn (hk.run pos pins s1 σ H1 _ I1 q) fun ws s2 ⟨zs, H2, I2, rz, l2, q2⟩ => ⟨I2.kIn, ?_⟩) (by rw [a3]; rfl)
    rw [a2]
    exact run_fnN (us := [.ref a]) (vs := [.ref a]) F hr hb' pass0 I2 (.cons rfl .nil) rz rfl l2 q2
end
end DL

set_option Elab.async false
set_option linter.all false
set_option maxRecDepth 100000
set_option maxHeartbeats 8000000
/-! DLz6: dict(list of pairs) whose keys (numbers, texts) may be told again. -/
namespace DL
open PySem PySem.Spec PyProof.Rows L2
variable {K : PySem.W.Frag}
theorem Pairs.merge {H : Hp} : ∀ {more : List (Key × D)} {us : List (Key × V)} {acc : List (Key × D)} {xs : List (Key × V)}, Pairs K H acc xs → Pairs K H more us → Pairs K H (mergeL acc more) (mergeK xs us)
  | [], _, _, _, h, h' => by unfold Pairs at h'; subst h'; exact h
  | (k, d) :: more, _, acc, xs, h, h' => by
    unfold Pairs at h'
    obtain ⟨v, r, rfl, h1, h2⟩ := h'
    show Pairs K H (mergeL (putL acc k d) more) (mergeK (putK xs k v) r)
    exact Pairs.merge (h.putD h1) h2
section
variable {X : Cx}
def dictMS : Spec := fun ds M Q => ∃ p, ∃ kvs : List (Key × D), ds = [.ref p] ∧ M p = some (.lst (kvs.map fun kv => .tup [kD kv.1, kv.2])) ∧ ∀ q, M q = none → Q (.ref q) (up M q (.dK (mergeL [] kvs)))
theorem cd_dictM (hc : X.calm = true) : CallR X (.type "dict") (rDL X.K dictMS) := (call_dictP hc).lift fun ds M F H Q0 Q vs r m fr h g => by
  obtain ⟨p, kvs, rfl, e, q⟩ := h
  obtain ⟨v, rfl, rr⟩ := r.one
  cases rr
  obtain ⟨ws, e1, rw'⟩ := m _ _ e
  obtain ⟨ps, us, rfl, h1, h2⟩ := pairs_reps rw'
  refine ⟨p, ps, us, rfl, .of e1, h1, fun a ha => ?_⟩
  have h3 : Pairs X.K H (mergeL [] kvs) (mergeK [] us) := Pairs.merge (by unfold Pairs; rfl) h2
  exact g _ _ _ _ (q a (m.none ha)) (.new ha) (fr.new ha _) (m.new ha ⟨_, upd_same, h3.stay (.new ha)⟩) rfl
end
end DL

set_option Elab.async false
set_option linter.all false
set_option maxRecDepth 100000
set_option maxHeartbeats 8000000
/-! DLz7: dict(list of pairs) whose keys are tuples; sorted(d), d's keys whole numbers. -/
namespace DL
open PySem PySem.Spec PyProof.Rows L2
variable {K : PySem.W.Frag}
theorem keyT_val {H : Hp} {ks : List Key} {v : V} (h : Rep K H (keyT ks) v) : ∃ b, v = .ref b ∧ SqT K H b (ks.map kV) := by
  unfold keyT Rep at h
  obtain ⟨b, vs, rfl, h1, h2⟩ := h
  refine ⟨b, rfl, ?_⟩
  rw [← keysD_reps (keysD_map ks) h2]
  exact h1
theorem tpairs_reps {H : Hp} : ∀ {kvs : List (List Key × D)} {vs : List V}, Reps K H (kvs.map fun kv => .tup [keyT kv.1, kv.2]) vs → ∃ (ps : List Addr) (xs : List (List Key × Addr × V)), vs = ps.map V.ref ∧ Paired (fun p (x : List Key × Addr × V) => SqT K H p [.ref x.2.1, x.2.2]) ps xs ∧ TPs K H kvs xs
  | [], _, h => by
    unfold Reps at h
    subst h
    exact ⟨[], [], rfl, .nil, by unfold TPs; rfl⟩
  | (k, d) :: kvs, _, h => by
    rw [List.map_cons] at h
    unfold Reps at h
    obtain ⟨v, r, rfl, h1, h2⟩ := h
    obtain ⟨ps, us, rfl, h3, h4⟩ := tpairs_reps h2
    unfold Rep at h1
    obtain ⟨a, ws, rfl, h5, h6⟩ := h1
    obtain ⟨x, y, rfl, h7, h8⟩ := h6.two
    obtain ⟨b, rfl, h9⟩ := keyT_val h7
    exact ⟨a :: ps, (k, b, y) :: us, rfl, .cons h5 h3, by unfold TPs; exact ⟨b, y, us, rfl, h9, h8, h4⟩⟩
section
variable {X : Cx}
theorem tpairs_of {pins : List (Addr × Obj)} {σ : L2.St} {H : Hp} {s : Shared} (I : Inv X pins σ H s) : ∀ {ps : List Addr} {xs : List (List Key × Addr × V)}, Paired (fun p (x : List Key × Addr × V) => SqT X.K H p [.ref x.2.1, x.2.2]) ps xs →
    ∃ ys : List (List Key × Addr × Value), Paired FitX xs ys ∧ ys.length = ps.length ∧ ∀ (j : Nat) (y : List Key × Addr × Value), ys[j]? = some y → ∃ b : Addr, ps[j]? = some b ∧ IsTup s.heap b #[.ref y.2.1, y.2.2]
  | _, _, .nil => ⟨[], .nil, rfl, fun j q e => by simp at e⟩
  | _, _, .cons (a := p) (b := x) h t => by
    obtain ⟨ys, r, hl, hp⟩ := tpairs_of I t
    obtain ⟨its, rv, ht, _⟩ := I.tuple h
    obtain ⟨u, y, ei, ru, ry⟩ := vals2 rv
    subst ei
    obtain rfl : u = Value.ref x.2.1 := ru
    refine ⟨(x.1, x.2.1, y) :: ys, .cons ⟨rfl, rfl, ry⟩ r, by rw [List.length_cons, List.length_cons, hl], fun j q e => ?_⟩
    cases j with
    | zero =>
      have e' : (x.1, x.2.1, y) = q := Option.some.inj e
      subst e'
      exact ⟨p, rfl, ht⟩
    | succ j =>
      obtain ⟨b, e1, e2⟩ := hp j q (by simpa using e)
      exact ⟨b, by simpa using e1, e2⟩
def dictTS (P : Program) (w : World) : Spec := fun ds M Q => ∃ p, ∃ kvs : List (List Key × D), ds = [.ref p] ∧ M p = some (.lst (kvs.map fun kv => .tup [keyT kv.1, kv.2])) ∧ ∀ q, M q = none → Q (.ref q) (up M q (.dX P w (mergeL [] kvs)))
theorem cd_dictT {P : Program} {w : World} (eP : P = X.prog) (ew : w = X.w) (hc : X.calm = true) (hu : Ru X) : CallR X (.type "dict") (rDL X.K (dictTS P w)) := fun pins s σ H xs us Q I rv h => by
  subst eP
  subst ew
  have hu1 : X.A.units + 1 + 1 < cLine := Nat.lt_of_le_of_lt (by omega) hu
  obtain ⟨ds, M, F, Q0, r1, m, fr, ⟨p, kvs, rfl, e, q⟩, g⟩ := h
  obtain ⟨v, rfl, rr⟩ := r1.one
  cases rr
  obtain ⟨u, rfl, ru⟩ := vals1 rv
  obtain rfl : u = Value.ref p := ru
  obtain ⟨ws, e1, rw'⟩ := m _ _ e
  obtain ⟨ps, zs, rfl, h1, h2⟩ := tpairs_reps rw'
  obtain ⟨its, rl, pl, hz⟩ := I.list (SqL.of (K := X.K) e1)
  have ei := refs_at rl
  subst ei
  rw [List.length_map] at hz
  obtain ⟨ys, f, hl, hp⟩ := tpairs_of I h1
  have hn : H s.heap.objs.size = none := I.hok.fresh (Nat.le_refl _)
  have hsm : (s.heap.objs.size == sysModules) = false := beq_eq_false_iff_ne.mpr (Nat.ne_of_gt I.big)
  obtain ⟨fk, fl, fm⟩ := fit_keys f
  have hlen : (ys.map fun y => (Value.ref y.2.1, y.2.2)).length = ps.length := by rw [List.length_map, hl]
  have ok : PlainSeq "list" s.heap p (ps.map Value.ref).toArray ∧ PairItems s.heap (ps.map Value.ref).toArray (fun j => ps.getD j 0) (ys.map fun y => (Value.ref y.2.1, y.2.2)) := by
    refine ⟨?_, by simp [hl], fun j k v hj => ?_⟩
    · obtain ⟨o, n, ho, hc', hd, hdat⟩ := pl
      exact ⟨o, n, ho, hc', hd, hdat⟩
    · rw [List.getElem?_map] at hj
      obtain ⟨y, ey, e2⟩ := Option.map_eq_some_iff.mp hj
      cases e2
      obtain ⟨b, e3, e4⟩ := hp j y ey
      have e5 : ps.getD j 0 = b := by rw [List.getD_eq_getElem?_getD, e3]; rfl
      show _ ∧ PairAt s.heap (ps.getD j 0) (Value.ref y.2.1) y.2.2
      refine ⟨?_, .inl ?_⟩
      · show (ps.map Value.ref).toArray[j]? = some (Value.ref (ps.getD j 0))
        rw [e5]
        simp [e3]
      rw [e5]
      obtain ⟨o, o1, o2, n, o3⟩ := e4
      exact ⟨o, o1, o2, n, o3⟩
  refine call_dict_pairsH (knd := tupleKind (mixKind X.prog X.w)) (ps := ys) (PairArg.list p (ps.map Value.ref).toArray (fun j => ps.getD j 0) (ys.map fun y => (Value.ref y.2.1, y.2.2))) (I.ok.hd hc) hu1 ok ⟨by rw [List.length_map], fun i key v hr => ?_⟩ (fun h' hk x hx => ?_) (by rw [List.length_map, hl]; exact hz) fun h' tk hd' hk => ?_
  · have hr' : (ys.map fun y => (Value.ref y.2.1, y.2.2))[i]? = some (key, v) := hr
    rw [List.getElem?_map] at hr'
    obtain ⟨y, ey, e2⟩ := Option.map_eq_some_iff.mp hr'
    cases e2
    exact ⟨y.1, y.2.1, ey, rfl⟩
  · obtain ⟨y, hy, e2, e3⟩ := fm x hx
    rw [← e2, ← e3]
    exact tupleKind_stays.stays (fun b o vs n eo _ => hk b o (Nat.ne_of_lt (Heap.lt_size eo)) (fun z => nomatch z) eo) (key_sq I (h2.sq y hy))
  · obtain ⟨o', es, ep, hq, d2, d3, d4, _, d5⟩ := hd'
    have tz : TPs X.K H (mergeL [] kvs) (mergeX [] zs) := TPs.merge (by unfold TPs; rfl) h2
    refine ⟨.ref s.heap.objs.size, upd H s.heap.objs.size (.ext (TD X.prog X.w s.heap.objs.size (mergeX [] zs))), I.laid (t' := tk) (fun b u eb => hk b u (fun z => nomatch z) eb) (Nat.le_refl _) (td_ok ⟨hsm, _, paired_merge f .nil, o', es, ep, hq, d2, d3, d4, d5⟩), rfl, ?_⟩
    exact g _ _ _ _ (q _ (m.none hn)) (.new hn) (fr.new hn _) (m.new hn ⟨_, upd_same, tz.stay (.new hn)⟩) rfl
/-! ### sorted(d), d's keys whole numbers, fewer than 64 -/
def sortIS : Spec := fun ds M Q => ∃ a, ∃ kvs : List (Key × D), ∃ ks : List Int, ds = [.ref a] ∧ M a = some (.dK kvs) ∧ kvs.map (·.1) = ks.map Sum.inl ∧ ks.length < 64 ∧
  ∀ (ys : List Int) (p : Addr), ys.Perm ks → ys.Pairwise (· ≤ ·) → M p = none → Q (.ref p) (up M p (.lst (ys.map D.int)))
theorem ints_reps {H : Hp} : ∀ ys : List Int, Reps K H (ys.map D.int) (ys.map V.int)
  | [] => .nil
  | y :: ys => .cons rfl (ints_reps ys)
theorem cd_sortI (hc : X.calm = true) : CallR X (.builtin "sorted") (rDL X.K sortIS) := (call_sortedDI hc).lift fun ds M F H Q0 Q vs r m fr h g => by
  obtain ⟨a, kvs, ks, rfl, e, ek, hz, q⟩ := h
  obtain ⟨v, rfl, rr⟩ := r.one
  cases rr
  obtain ⟨us, e1, ps⟩ := m _ _ e
  refine ⟨a, us, ks, rfl, .inl e1, ?_, hz, fun ys p hp hs hn => ?_⟩
  · rw [← ek]; exact ps.keys.symm
  · exact g _ _ _ _ (q ys p hp hs (m.none hn)) (.new hn) (fr.new hn _) (m.new hn ⟨_, upd_same, ints_reps ys⟩) rfl
end
end DL

set_option Elab.async false
set_option linter.all false
set_option maxRecDepth 100000
set_option maxHeartbeats 8000000
/-! DLz8: sorted(t), t a tuple of plain things. -/
namespace DL
open PySem PySem.Spec PyProof.Rows L2
variable {K : PySem.W.Frag}
section
variable {X : Cx}
def sortTS : Spec := fun ds M Q => ∃ xs, ds = [.tup xs] ∧ plains xs = true ∧ PySem.W.AllAlike (xs.map py) ∧ PySem.W.Sortable (xs.map py) ∧ (∀ x ∈ xs, (py x).depth ≤ 60) ∧
  ∀ p, M p = none → Q (.ref p) (up M p (.lst (sortD xs)))
theorem cd_sortT (hc : X.calm = true) (hu : Ru X) : CallR X (.builtin "sorted") (rDL X.K sortTS) := fun pins s σ H xs us Q I rv hh => by
  obtain ⟨ds, M, F, Q0, r1, m, fr, ⟨kvs, rfl, pl, al, hk0, dp, q⟩, g⟩ := hh
  obtain ⟨v, rfl, rr⟩ := r1.one
  obtain ⟨u, rfl, ru⟩ := vals1 rv
  unfold Rep at rr
  obtain ⟨a, vs, rfl, sq, ps⟩ := rr
  obtain rfl : u = Value.ref a := ru
  obtain ⟨its, rvs, ⟨o, e1, e2, n, e3⟩, hz⟩ := I.tuple sq
  have el : kvs.length = its.length := ps.length.trans rvs.length
  refine Calls.call_function_entry PyProof.Rows.kind_sorted PyProof.Rows.plain_sorted PyProof.Rows.entry_sorted (PyProof.Rows.args_sorted1 _) ?_
  unfold Builtin.«sorted»
  refine wpAny_bind (m := checkCount "sorted" 1 1 _) (wpAny_pure ?_)
  have hz' : its.length ≤ sizeLine := by rw [← rvs.length]; exact hz
  refine wpAny_bind (wpAny_collect_seq (A := X.A.in1) a (.inr rfl) e1 e2 e3 (fun h' hk => ?_) (by simpa using hz'))
  have I1 : Inv X pins σ H { s with heap := h', toks := s.toks } := I.kept hk
  obtain ⟨w1, w2⟩ := each_of I1 ps rvs pl
  refine wpAny_bind (wpAny_newList ?_ hz')
  have hoL : (h'.push (seqObj "list" its.toArray 0)).get? h'.objs.size = some (seqObj "list" its.toArray 0) := Heap.get?_push_size _ rfl
  show wpAny _ _ _ _ _ { s with heap := h'.push (seqObj "list" its.toArray 0), toks := s.toks }
  have er : PySem.W.EachIs (fun (v : Value) (d : D) => ∃ as, Reads (h'.push (seqObj "list" its.toArray 0)) v (py d) as ∧ h'.objs.size ∉ as) its kvs := w2.mono fun v d h => by
    obtain ⟨as, r⟩ := h
    refine ⟨as, PyProof.Rows.Reads.keeps (fun b o e => Heap.get?_push_of_some _ e) r, fun hm => ?_⟩
    obtain ⟨ob, eb⟩ := reads_in r _ hm
    exact absurd (Heap.lt_size eb) (Nat.lt_irrefl _)
  have hu0 : ∀ b, b ∈ kvs → X.A.in1.units + 1 + (py b).depth < cLine := fun b hb => by
    have := hu
    have := dp b hb
    show X.A.units + 1 + 1 + _ < cLine
    omega
  refine wpAny_bind (wpAny_holding (PySem.W.list_sort_data (s := { s with heap := h'.push (seqObj "list" its.toArray 0), toks := s.toks }) (R := fun (u : Value) (d : D) => ∃ v, RelV v u ∧ Rep X.K H d v) (enc := py) (bs := kvs) hoL w1 er al hk0 (by rw [el]; exact hz') hu0 fun out hlen ho => ?_))
  · obtain ⟨vs', y1, y2⟩ := of_each ho
    have hn : H h'.objs.size = none := I1.hok.fresh (Nat.le_refl _)
    obtain ⟨c, hc'⟩ := PyProof.Rows.sortedHeap_at (vs := its) (out := out.toArray) hoL
    refine wpAny_pure ⟨_, rfl, .ref h'.objs.size, upd H h'.objs.size (.lst vs'), I1.laid (t' := s.toks) (fun b u e => ?_) (Nat.le_refl _) ⟨by rw [y1.length, hlen, el]; exact hz', out, c, y1, hc'⟩, rfl, g _ _ _ _ (q _ (m.none hn)) (.new hn) (fr.new hn _) (m.new hn ⟨vs', upd_same, y2.stay (.new hn)⟩) rfl⟩
    have hb : b < h'.objs.size := Heap.lt_size e
    rw [PyProof.Rows.sortedHeap_old (Nat.ne_of_lt hb) (by rw [size_push']; exact Nat.lt_succ_of_lt hb)]
    exact Heap.get?_push_of_some _ e
end
end DL

set_option Elab.async false
set_option linter.all false
set_option maxRecDepth 100000
set_option maxHeartbeats 8000000
/-! DLz9: zip of a list with a tuple. -/
namespace DL
open PySem PySem.Spec PyProof.Rows L2
variable {K : PySem.W.Frag}
/-- a list's items beside a tuple's, in new pairs -/
def ItzM (K : PySem.W.Frag) (a b : Addr) : It where
  go := fun i H => ∃ (us vs : List V), ∃ u v, (SqL K H a us ∧ SqT K H b vs) ∧ us[i]? = some u ∧ vs[i]? = some v
  yld := fun i H z H' => ∃ T u v, z = .ref T ∧ H T = none ∧ H' = upd H T (.tup [u, v]) ∧ (∀ us, SqL K H a us → us[i]? = some u) ∧ (∀ vs, SqT K H b vs → vs[i]? = some v)
  stop := fun i H => ∃ us vs, (SqL K H a us ∧ SqT K H b vs) ∧ i ≤ us.length ∧ i ≤ vs.length ∧ (i = us.length ∨ i = vs.length)
abbrev mix1 (h : Heap) (l : Addr) : Heap := h.push { cls := .type "list_iterator", data := .fields #[Value.ref l, Value.int 0 0] }
abbrev mix2 (h : Heap) (l t : Addr) : Heap := (mix1 h l).push { cls := .type "tuple_iterator", data := .fields #[Value.ref t, Value.int 0 0] }
abbrev mix3 (h : Heap) (l t : Addr) : Heap := (mix2 h l t).push { cls := .type "tuple", data := .seq #[Value.ref h.objs.size, Value.ref (mix1 h l).objs.size] }
abbrev mix4 (h : Heap) (l t : Addr) : Heap := (mix3 h l t).push { cls := .type "tuple", data := .seq #[Value.none, Value.none] }
abbrev mix5 (h : Heap) (l t : Addr) : Heap := (mix4 h l t).push { cls := .type "zip", data := .fields #[Value.none, Value.bool false, Value.bool false, Value.ref (mix2 h l t).objs.size, Value.ref (mix3 h l t).objs.size] }
theorem mix_new (l t : Addr) (us vs : Array Value) :
    Meets (Builtin.«zip.__new__» ⟨[.type "zip", .ref l, .ref t], []⟩) (fun _ R s => (s.heap.IsList l us ∧ s.heap.IsTuple t vs) ∧
      R (.ok (.ret (.ref (mix4 s.heap l t).objs.size))) { s with heap := mix5 s.heap l t }) :=
  Meets.of_wp fun prog w A R s hh => by
    obtain ⟨hq, gq, dq, tq, oq⟩ := s
    obtain ⟨⟨hl, ht⟩, hh⟩ := hh
    have sz := sub_zip
    have h1 : Heap.IsList (Shared.heap ⟨hq, gq, dq, tq, oq⟩) l us := hl
    have h2 : Heap.IsTuple (Shared.heap ⟨mix1 hq l, gq, dq, tq, oq⟩) t vs := Heap.IsTuple.push ht _
    wp_walk using wpAny_pyIter_list h1, wpAny_pyIter_tuple h2
    exact ⟨_, rfl, hh⟩
/-- the state of such a zip, its cells from I on -/
def tnM (I a b : Addr) (i : Nat) (h : Heap) : Prop := (IsZip h (I + 4) (I + 2) (I + 3) .none ∧ IsTupOf2 h (I + 2) (.ref I) (.ref (I + 1))) ∧ (∃ p q, IsTupOf2 h (I + 3) p q) ∧ h.IsListIter I a i ∧ h.IsTupleIter (I + 1) b i
theorem call_mix {prog : Program} {w : World} {A : Around} {E : Value → Shared → Prop} {s : Shared} {l t : Addr} {us vs : Array Value} {Q : Value → Shared → Prop} (hl : s.heap.IsList l us) (ht : s.heap.IsTuple t vs)
    (k : ∀ h', tnM s.heap.objs.size l t 0 h' → (∀ c o, s.heap.get? c = some o → h'.get? c = some o) → h'.objs.size = s.heap.objs.size + 5 → Q (.ref (s.heap.objs.size + 4)) { s with heap := h' }) :
    wpAny (model prog w) A (call (.type "zip") [.ref l, .ref t]) Q E s := by
  refine callType_new F.called_zip (by decide) (F.typeCall_zip_2 _ _) (F.newCall_zip_2 _ _) (fun obj => F.args_object_init_3 obj _ _) F.entry_zip_new (mix_new l t us vs) ⟨⟨hl, ht⟩, ?_⟩
  have s1 : (mix1 s.heap l).objs.size = s.heap.objs.size + 1 := Heap.size_push ..
  have s2 : (mix2 s.heap l t).objs.size = s.heap.objs.size + 2 := by rw [Heap.size_push, s1]
  have s3 : (mix3 s.heap l t).objs.size = s.heap.objs.size + 3 := by rw [Heap.size_push, s2]
  have s4 : (mix4 s.heap l t).objs.size = s.heap.objs.size + 4 := by rw [Heap.size_push, s3]
  have c5 : (mix5 s.heap l t).get? (mix4 s.heap l t).objs.size = some _ := Heap.get?_push_size _ rfl
  have c4 : (mix5 s.heap l t).get? (mix3 s.heap l t).objs.size = some _ := Heap.get?_push_of_some _ (Heap.get?_push_size _ rfl)
  have c3 : (mix5 s.heap l t).get? (mix2 s.heap l t).objs.size = some _ := Heap.get?_push_of_some _ (Heap.get?_push_of_some _ (Heap.get?_push_size _ rfl))
  have c2 : (mix5 s.heap l t).get? (mix1 s.heap l).objs.size = some _ := Heap.get?_push_of_some _ (Heap.get?_push_of_some _ (Heap.get?_push_of_some _ (Heap.get?_push_size _ rfl)))
  have c1 : (mix5 s.heap l t).get? s.heap.objs.size = some _ := Heap.get?_push_of_some _ (Heap.get?_push_of_some _ (Heap.get?_push_of_some _ (Heap.get?_push_of_some _ (Heap.get?_push_size _ rfl))))
  show _ ∧ _
  rw [s2, s3, s4] at c5
  rw [s1, s2] at c3
  rw [s3] at c4
  rw [s1] at c2
  rw [s4]
  exact ⟨⟨_, c5, rfl⟩, k _ ⟨⟨c5, c3⟩, ⟨_, _, c4⟩, ⟨_, c1, rfl, rfl⟩, ⟨_, c2, rfl, rfl⟩⟩ (fun c o e => Heap.get?_push_of_some _ (Heap.get?_push_of_some _ (Heap.get?_push_of_some _ (Heap.get?_push_of_some _ (Heap.get?_push_of_some _ e))))) (by rw [Heap.size_push, s4])⟩
theorem sepM {I a b : Nat} (ha : a < I) (hb : b < I) : ZipSep2 (I + 4) (I + 2) (I + 3) I (I + 1) [I, a] [I + 1, b] where
  TIz := Nat.ne_of_lt (by omega)
  TOz := Nat.ne_of_lt (by omega)
  TITO := Nat.ne_of_lt (by omega)
  TIi1 := Nat.ne_of_gt (by omega)
  mem1 := by simp
  zf1 := fun h => by
    simp only [List.mem_cons, List.not_mem_nil, or_false] at h
    rcases h with h | h <;> exact absurd h (Nat.ne_of_gt (by omega))
  Tf1 := fun h => by
    simp only [List.mem_cons, List.not_mem_nil, or_false] at h
    rcases h with h | h <;> exact absurd h (Nat.ne_of_gt (by omega))
  TIi2 := Nat.ne_of_gt (by omega)
  mem2 := by simp
  zf2 := fun h => by
    simp only [List.mem_cons, List.not_mem_nil, or_false] at h
    rcases h with h | h <;> exact absurd h (Nat.ne_of_gt (by omega))
  Tf2 := fun h => by
    simp only [List.mem_cons, List.not_mem_nil, or_false] at h
    rcases h with h | h <;> exact absurd h (Nat.ne_of_gt (by omega))
  sep1_2 := fun h => by
    simp only [List.mem_cons, List.not_mem_nil, or_false] at h
    rcases h with h | h
    · exact absurd h (Nat.ne_of_lt (by omega))
    · exact absurd h (Nat.ne_of_gt (by omega))
  sep2_1 := fun h => by
    simp only [List.mem_cons, List.not_mem_nil, or_false] at h
    rcases h with h | h <;> exact absurd h (Nat.ne_of_gt (by omega))
abbrev fpM (I : Addr) : List Addr := [I + 4, I + 2, I + 3, I, I + 1]
theorem turn_mix {P : Program} {w : World} {K : PySem.W.Frag} {elts : List Expr} {kk : Nat} {tpos : Pos} {I a b : Addr} (ha : a < I) (hb : b < I) : Turn P w K (.Tuple elts kk tpos) (ItzM K a b) (fpM I) (I + 4) (tnM I a b) where
  mem := by simp
  obj := fun i h st c hc => by
    obtain ⟨⟨t1, t2⟩, ⟨p, q, t3⟩, ⟨o1, e1, _, d1⟩, ⟨o2, e2, _, d2⟩⟩ := st
    simp only [fpM, List.mem_cons, List.not_mem_nil, or_false] at hc
    rcases hc with rfl | rfl | rfl | rfl | rfl
    · exact ⟨_, t1, fun v z => by cases z⟩
    · exact ⟨_, t2, fun v z => by cases z⟩
    · exact ⟨_, t3, fun v z => by cases z⟩
    · exact ⟨o1, e1, fun v z => by rw [d1] at z; cases z⟩
    · exact ⟨o2, e2, fun v z => by rw [d2] at z; cases z⟩
  keep := fun i h h' st k => by
    obtain ⟨⟨t1, t2⟩, ⟨p, q, t3⟩, t4, t5⟩ := st
    exact ⟨⟨k _ (by simp) _ t1, k _ (by simp) _ t2⟩, ⟨p, q, k _ (by simp) _ t3⟩, t4.at fun o z => k _ (by simp) o z, t5.at fun o z => k _ (by simp) o z⟩
  item := by
    intro X e1 e2 e3 hcalm i pins s σ H E Iv hf st hg
    subst e1 e2 e3
    obtain ⟨⟨t1, t2⟩, ⟨p0, q0, t3⟩, t4, t5⟩ := st
    obtain ⟨us, vs, u, v, ⟨g1, g2⟩, g3, g4⟩ := hg
    obtain ⟨is1, r1, pl1, _⟩ := Iv.list g1
    obtain ⟨is2, r2, pl2, _⟩ := Iv.tuple g2
    have hd : X.A.in1.handled = none := Iv.ok.hd hcalm
    have l1 := r1.length
    have l2 := r2.length
    have b1 : i < us.length := by
      rcases Nat.lt_or_ge i us.length with h | h
      · exact h
      · rw [List.getElem?_eq_none h] at g3; cases g3
    have b2 : i < vs.length := by
      rcases Nat.lt_or_ge i vs.length with h | h
      · exact h
      · rw [List.getElem?_eq_none h] at g4; cases g4
    have zl : I + 4 < s.heap.objs.size := Heap.lt_size t1
    have S := sepM ha hb
    refine wpAny_pyNext_zipD2_item (i := i) S (Draws.list hd I a (Nat.ne_of_lt ha) is1.toArray) (Draws.tuple hd (I + 1) b (Nat.ne_of_lt (Nat.lt_succ_of_lt hb)) is2.toArray) t1 t2 t3 ⟨t4, pl1.isList⟩ ⟨t5, pl2⟩ (by simp; omega) (by simp; omega) fun x1 x2 h' tk y1 y2 z1 z2 w1 w2 hT hsz hk => ?_
    obtain ⟨u', hu, ru⟩ := r1.get g3
    obtain ⟨v', hv, rv⟩ := r2.get g4
    have ex1 : u' = x1 := by
      have := y1
      simp only [List.getElem?_toArray] at this
      rw [hu] at this
      exact Option.some.inj this
    have ex2 : v' = x2 := by
      have := y2
      simp only [List.getElem?_toArray] at this
      rw [hv] at this
      exact Option.some.inj this
    subst ex1 ex2
    refine ⟨_, rfl, wpAny_letOwnedTupleGo_zip (s := { s with heap := h', toks := tk }) z1 fun h2 z3 sb => ?_⟩
    have hT2 : IsTupOf2 h2 s.heap.objs.size u' v' := (sb.2 _ (Nat.ne_of_gt zl)).trans hT
    have fresh : ObjOk X.prog X.w (upd H s.heap.objs.size (.tup [u, v])) h2 s.heap.objs.size (.tup [u, v]) :=
      ⟨by show 2 ≤ sizeLine; decide, [u', v'], .cons ru (.cons rv .nil), ⟨_, hT2, rfl, _, rfl⟩⟩
    have keepS : ∀ c o, c ∉ fpM I → s.heap.get? c = some o → h2.get? c = some o := fun c o hc e => by
      simp only [fpM, List.mem_cons, List.not_mem_nil, or_false, not_or] at hc
      obtain ⟨n1, n2, n3, n4, n5⟩ := hc
      exact (sb.2 c n1).trans (hk c o n1 n3 n4 n5 e)
    have I1 : Inv X pins σ (upd H s.heap.objs.size (.tup [u, v])) { s with heap := h2, toks := tk } := Iv.turnedNew (t' := tk) (ch := fpM I) keepS hf (Nat.le_refl _) fresh
    refine ⟨.ref s.heap.objs.size, _, I1, rfl, ⟨_, u, v, rfl, Iv.hok.fresh (Nat.le_refl _), rfl, fun us' h => by rw [Iv.list_inj h g1]; exact g3, fun vs' h => by rw [Iv.tuple_inj h g2]; exact g4⟩, ⟨⟨z3, ?_⟩, ⟨u', v', ?_⟩, ?_, ?_⟩, fun c hc => ?_⟩
    · exact (sb.2 _ S.TIz).trans (hk _ _ S.TIz S.TITO S.TIi1 S.TIi2 t2)
    · exact (sb.2 _ S.TOz).trans z2
    · exact w1.1.at fun o e => (sb.2 _ (Ne.symm S.zi1)).trans e
    · exact w2.1.at fun o e => (sb.2 _ (Ne.symm S.zi2)).trans e
    · have hlt : c < s.heap.objs.size := by
        simp only [fpM, List.mem_cons, List.not_mem_nil, or_false] at hc
        rcases hc with h | h | h | h | h <;> rw [h]
        · exact zl
        · exact Nat.lt_trans (Nat.add_lt_add_left (by decide) I) zl
        · exact Nat.lt_trans (Nat.add_lt_add_left (by decide) I) zl
        · exact Nat.lt_of_le_of_lt (Nat.le_add_right I 4) zl
        · exact Nat.lt_trans (Nat.add_lt_add_left (by decide) I) zl
      rw [upd_ne (Nat.ne_of_lt hlt)]
      exact (hf c hc).1
  done := by
    intro X e1 e2 e3 hcalm i pins s σ H E Iv hf st hg
    subst e1 e2 e3
    obtain ⟨⟨t1, t2⟩, ⟨p0, q0, t3⟩, t4, t5⟩ := st
    obtain ⟨us, vs, ⟨g1, g2⟩, g3, g4, g5⟩ := hg
    obtain ⟨is1, r1, pl1, _⟩ := Iv.list g1
    obtain ⟨is2, r2, pl2, _⟩ := Iv.tuple g2
    have hd : X.A.in1.handled = none := Iv.ok.hd hcalm
    have l1 := r1.length
    have l2 := r2.length
    refine wpAny_pyNext_zipD2_end (i := i) (sepM ha hb) (Draws.list hd I a (Nat.ne_of_lt ha) is1.toArray) (Draws.tuple hd (I + 1) b (Nat.ne_of_lt (Nat.lt_succ_of_lt hb)) is2.toArray) t1 t2 t3 ⟨t4, pl1.isList⟩ ⟨t5, pl2⟩ (by simp; omega) (by simp; omega) (by simp; omega) fun h' tk hk => ⟨rfl, ?_⟩
    refine Iv.turnedL (t' := tk) (ch := fpM I) (fun c o hc e => ?_) hf
    simp only [fpM, List.mem_cons, List.not_mem_nil, or_false, not_or] at hc
    obtain ⟨n1, n2, n3, n4, n5⟩ := hc
    exact hk c o n1 n3 n4 n5 e
  self := fun A i s Q E st h => wpAny_pyIter_zip st.1.1 h
section
variable {X : Cx} {a b : Expr} {wa wb : WE}
def iMix (K : PySem.W.Frag) (ta : TA) : TI := fun σ H R => ta σ H fun zs H1 => ∃ p q us vs, zs = [.ref p, .ref q] ∧ SqL K H1 p us ∧ SqT K H1 q vs ∧ R (ItzM K p q) H1
theorem pi_mix {ta : TA} {p pos tpos : Pos} {elts : List Expr} {kk : Nat} (hg : Gl X "zip") (hm : X.mg "zip" = none) (ha : PA X [a, b] ta)
    (hs : starEach [a, b] X.env = (false, eval a X.env) :: starEach [b] X.env) (hpl : (backTo pos (starEach [b] X.env)).any (·.1) = false) :
    PI X (.Tuple elts kk tpos) (.Call (.Name "zip" p) [a, b] [] pos) (iMix X.K ta) := ⟨fun pins s σ H R Iv hh => by
  refine Call_ (ld_blt Iv hg hm PyProof.Rows.boot_zip (PyProof.Rows.callWith_type1 (thn (ha.run pos pins s σ H _ Iv hh) fun zs s1 ⟨ws, H1, I1, rr, q1⟩ => ?_) hs hpl))
  obtain ⟨x, y, us, vs, rfl, g1, g2, q⟩ := q1
  cases rr with
  | cons k1 rr =>
    cases rr with
    | cons k2 rr =>
      cases rr
      cases k1
      cases k2
      obtain ⟨is1, r1, pl1, _⟩ := I1.list g1
      obtain ⟨is2, r2, pl2, _⟩ := I1.tuple g2
      have hx : x < s1.heap.objs.size := pl1.lt
      have hy : y < s1.heap.objs.size := pl2.lt
      have fresh : ∀ c ∈ fpM s1.heap.objs.size, FpOk X pins H1 c := fun c hc => by
        have hle : s1.heap.objs.size ≤ c := by
          simp only [fpM, List.mem_cons, List.not_mem_nil, or_false] at hc
          rcases hc with h | h | h | h | h <;> rw [h]
          · exact Nat.le_add_right _ _
          · exact Nat.le_add_right _ _
          · exact Nat.le_add_right _ _
          · exact Nat.le_refl _
          · exact Nat.le_add_right _ _
        exact I1.fpOk hle (I1.hok.fresh hle)
      refine call_mix pl1.isList pl2 fun h' tn hk _ => wpAny_pyIter_zip tn.1.1 ?_
      exact ⟨_, fpM s1.heap.objs.size, _, _, H1, rfl, I1.kept (t' := s1.toks) hk, turn_mix hx hy, tn, fresh, q⟩⟩
def zipM (M : Mp) (d e : D) (T : DIt) : Prop := ∃ p xs ys, d = .ref p ∧ e = .tup ys ∧ M p = some (.lst xs) ∧ T = ⟨zipI xs ys, fun M => M p = some (.lst xs)⟩
def wIMix (wa wb : WE) : WI := fun ρ M Q => wa ρ M fun d M1 => wb ρ M1 fun e M2 => ∃ T, zipM M2 d e T ∧ Q T M2
theorem itok_mix {p q : Addr} {xs ys : List D} {us : List V} {H0 : Hp} (h0 : SqT K H0 q us) (r0 : Reps K H0 ys us) : ItOk K (ItzM K p q) ⟨zipI xs ys, fun M => M p = some (.lst xs)⟩ H0 := fun H M t m k i => by
  obtain ⟨vs, e, r⟩ := m _ _ k
  have e' := t _ _ h0
  have r' := r0.stay t
  have n1 := r.length
  have n2 := r'.length
  have nz : (zipI xs ys).length = min vs.length us.length := by rw [zipI_len, n1, n2]
  refine ⟨fun hi => ?_, fun hi => ⟨vs, us, ⟨.of e, e'⟩, ?_⟩⟩
  · have hi' : i < min vs.length us.length := nz ▸ hi
    have j1 : vs[i]? = some (vs[i]'(by omega)) := List.getElem?_eq_getElem _
    have j2 : us[i]? = some (us[i]'(by omega)) := List.getElem?_eq_getElem _
    refine ⟨⟨vs, us, _, _, ⟨.of e, e'⟩, j1, j2⟩, fun x H' hy => ?_⟩
    obtain ⟨T, v1, v2, rfl, hT, eH, g1, g2⟩ := hy
    obtain ⟨d1, a1, b1⟩ := r.get' (g1 vs (.of e))
    obtain ⟨d2, a2, b2⟩ := r'.get' (g2 us e')
    exact ⟨_, zipI_get a1 a2, yields m hT eH b1 b2⟩
  · have hi' : min vs.length us.length = i := nz ▸ hi
    omega
theorem pid_mix {elts : List Expr} {kk : Nat} {tpos pos p : Pos} (h : PE X a (tD X.K wa)) (h' : PE X b (tD X.K wb)) (hg : Gl X "zip") (hm : X.mg "zip" = none) (hs : starEach [a, b] X.env = (false, eval a X.env) :: starEach [b] X.env) (hs2 : starEach [b] X.env = [(false, eval b X.env)]) :
    PI X (.Tuple elts kk tpos) (.Call (.Name "zip" p) [a, b] [] pos) (iD X.K (wIMix wa wb)) :=
  (pi_mix hg hm (pda_cons h (pda_cons h' pda_nil hs2) hs) hs (by rw [hs2]; rfl)).imp fun σ H R => by
    rintro ⟨ρ, M, F, Q0, s, q, g⟩
    refine ⟨ρ, M, F, _, s, arg2 q, fun ds M1 vs H1 q1 t1 f1 r1 p1 => ?_⟩
    obtain ⟨d, e, rfl, T, ⟨x, xs, ys, rfl, rfl, e1, rfl⟩, q1⟩ := q1
    obtain ⟨v, u, rfl, p1', p2'⟩ := p1.two
    cases p1'
    unfold Rep at p2'
    obtain ⟨y, us, rfl, s2, p4⟩ := p2'
    obtain ⟨ws, w1, _⟩ := r1 _ _ e1
    exact ⟨x, y, ws, us, rfl, .of w1, s2, g _ M1 _ H1 q1 t1 f1 r1 (itok_mix s2 p4)⟩
end
/-! ### a if t else b, as a test -/
section
variable {X : Cx} {a b e : Expr} {pos : Pos}
def wIfB (t u v : WT) : WT := fun ρ M Q => t ρ M fun c M1 => if c = true then u ρ M1 Q else v ρ M1 Q
theorem pdt_if {wt wu wv : WT} (he : PT X e (tDT X.K wt)) (ha : PT X a (tDT X.K wu)) (hb : PT X b (tDT X.K wv)) : PT X (.IfExp e a b pos) (tDT X.K (wIfB wt wu wv)) := ⟨fun pins s σ H Q I hh => by
  obtain ⟨ρ, M, F, Q0, st, q, g⟩ := hh
  refine isTrue_IfExp (thn (he.run pins s σ H (fun c H1 => if c = true then tDT X.K wu σ H1 Q else tDT X.K wv σ H1 Q) I ⟨ρ, M, F, _, st, q, fun c M1 H1 q1 t1 f1 r1 => ?_⟩) fun c s1 ⟨H1, I1, q1⟩ => ?_)
  · cases c with
    | true => rw [if_pos rfl] at q1 ⊢; exact ⟨ρ, M1, F, Q0, st.next t1 f1 r1, q1, g.from t1 f1⟩
    | false => rw [if_neg Bool.false_ne_true] at q1 ⊢; exact ⟨ρ, M1, F, Q0, st.next t1 f1 r1, q1, g.from t1 f1⟩
  · cases c with
    | true => exact ha.run pins s1 σ H1 Q I1 q1
    | false => exact hb.run pins s1 σ H1 Q I1 q1⟩
end
end DL

set_option Elab.async false
set_option linter.all false
set_option maxRecDepth 100000
set_option maxHeartbeats 8000000
/-! DLza: tuples known as the objects they are: tuple(list), t.index(y). -/
namespace DL
open PySem PySem.Spec PyProof.Rows L2
variable {K : PySem.W.Frag}
theorem txk_ok {P : Program} {w : World} {H : Hp} {h : Heap} {a : Addr} {vs : List V} (t : TXk a vs h) : ObjOk P w H h a (.ext (TXk a vs)) :=
  ⟨t, let ⟨_, _, _, e⟩ := t; ⟨_, e⟩, fun _ _ t1 k => let ⟨its, z, r, e⟩ := t1; ⟨its, z, r, k _ e⟩⟩
section
variable {X : Cx}
/-- tuple(a list): a tuple, or a tuple known as its object -/
def tupXS : Spec := fun ds M Q => ∃ a xs, ds = [.ref a] ∧ M a = some (.lst xs) ∧ (Q (.tup xs) M ∨ ∀ p, M p = none → Q (.ref p) (up M p (.tx xs)))
theorem new_tx : CallR X (.type "tuple") (fun xs H Q => ∃ p ys, xs = [V.ref p] ∧ SqL X.K H p ys ∧ ∀ l, H l = none → Q (.ref l) (upd H l (.ext (TXk l ys)))) := fun pins s σ H xs us Q I r h => by
  obtain ⟨p, ys, rfl, hq, q⟩ := h
  obtain ⟨u, rfl, rx⟩ := vals1 r
  cases rx
  obtain ⟨its, rv, hl, hz⟩ := I.list hq
  have ln := rv.length
  refine call_tuple_list hl.isList (fun h1 kp => ?_) (by rw [List.size_toArray]; omega)
  have Ik : Inv X pins σ H { s with heap := h1 } := I.kept (t' := s.toks) kp
  have ok : ObjOk X.prog X.w (upd H h1.objs.size (.ext (TXk h1.objs.size ys))) (h1.push { cls := .type "tuple", data := .seq its.toArray }) h1.objs.size (.ext (TXk h1.objs.size ys)) :=
    txk_ok ⟨its, by omega, rv, Heap.get?_push_size _ rfl⟩
  exact ⟨.ref h1.objs.size, _, Ik.laid (t' := s.toks) (fun b o e => Heap.get?_push_of_some _ e) (Nat.le_refl _) ok, rfl, q _ (Ik.hok.fresh (Nat.le_refl _))⟩
theorem cd_tupX : CallR X (.type "tuple") (rDL X.K tupXS) := fun pins s σ H xs us Q I rv hh => by
  obtain ⟨ds, M, F, Q0, r1, m, fr, ⟨a, es, rfl, e, q⟩, g⟩ := hh
  rcases q with q | q
  · exact cd_tuple pins s σ H xs us Q I rv ⟨[.ref a], M, F, Q0, r1, m, fr, ⟨_, es, rfl, .inr ⟨a, rfl, e⟩, q⟩, g⟩
  · refine new_tx pins s σ H xs us Q I rv ?_
    obtain ⟨v, rfl, rr⟩ := r1.one
    cases rr
    obtain ⟨vs, q1, p1⟩ := m _ _ e
    refine ⟨a, vs, rfl, .of q1, fun l hl => ?_⟩
    exact g _ _ _ _ (q l (m.none hl)) (.new hl) (fr.new hl _) (m.new hl ⟨vs, upd_same, p1.stay (.new hl)⟩) rfl
/-! ### t.index(y) of such a tuple -/
def rXIdx (K : PySem.W.Frag) : V → List V → Hp → VK → Prop := fun x xs H Q => ∃ (a : Addr) (vs : List V) (y : V) (d : PyData) (ds : List PyData) (j : Nat) (z : PyData), x = V.ref a ∧ xs = [y] ∧ H a = some (.ext (TXk a vs)) ∧ DpAll K H vs ds ∧ Dp K H y d ∧ SeqAt.shaped (.list ds) = true ∧ SeqAt.shaped d = true ∧ ds[j]? = some z ∧ PyData.eqv z d = true ∧ (∀ (m : Nat) (z' : PyData), m < j → ds[m]? = some z' → PyData.eqv z' d = false) ∧ Q (.int (j : Nat)) H
theorem mt_xidx (hu : X.A.units + 65 < cLine) : MtR X "tuple.index" (rXIdx X.K) := by
  intro pins s σ H x xs v us Q I rx rxs h
  obtain ⟨a, vs, y, d, ds, j, z, rfl, rfl, hl, ha, hy, sl, sd, hz, hzj, hno, q⟩ := h
  cases rx
  cases rxs with
  | cons ry rt =>
    rename_i uy ut
    cases rt
    obtain ⟨bs, r1⟩ := Dp.reads I d y uy hy ry
    have hxs : PyData.canLayAll0 ds = true := SeqAt.canLay_of_shaped sl
    have hroom : X.A.units + 1 + min (PyData.depthAll ds) d.depth < cLine := room_in_shaped sd hu
    obtain ⟨⟨its, hlen, rv, ho⟩, _, _⟩ := I.hok _ _ hl
    obtain ⟨as, h4⟩ := Dp.readsAll I ds _ its ha rv
    have hn : its.length = ds.length := SeqAt.ReadsAll.length ds its as h4
    have hmap : its.map (SeqAt.readOf s.heap) = ds := SeqAt.readsAll_map ds its as hxs h4
    obtain ⟨hjd, _⟩ := List.getElem?_eq_some_iff.mp hz
    have hj : j < its.toArray.size := by rw [List.size_toArray]; omega
    have at_ : ∀ (m : Nat) (hm : m < its.toArray.size) (z' : PyData), ds[m]? = some z' → SeqAt.readOf s.heap its.toArray[m] = z' := by
      intro m hm z' hz'
      have hml : m < its.length := by simpa using hm
      rw [← hmap, List.getElem?_map, List.getElem?_eq_getElem hml] at hz'
      have e1 : SeqAt.readOf s.heap its[m] = z' := Option.some.inj (show some (SeqAt.readOf s.heap its[m]) = some z' from hz')
      simpa using e1
    refine call_meets PySem.F.slot_tuple_index ⟨_, ho, rfl⟩ PySem.F.entry_tuple_index (PySem.F.args_tuple_index_2 _ _)
      (TI.tuple_indexAt a its.toArray _ _ _ uy (fun u => PyData.eqv (SeqAt.readOf s.heap u) d) j hj ?_ ?_) ⟨ho, SeqAt.items_eqAt (vs := its.toArray) (show ReadsAll s.heap its.toArray.toList ds as from h4) r1 hxs (SeqAt.canLay_of_shaped sd) hroom, ?_⟩
    · show PyData.eqv (SeqAt.readOf s.heap its.toArray[j]) d = true
      rw [at_ j hj z hz]
      exact hzj
    · intro m hm hmj
      have hmd : m < ds.length := by omega
      show PyData.eqv (SeqAt.readOf s.heap its.toArray[m]) d = false
      rw [at_ m hm _ (List.getElem?_eq_getElem hmd)]
      exact hno m _ hmj (List.getElem?_eq_getElem hmd)
    · exact ⟨.int (j : Nat), H, I.tok _, ⟨_, rfl⟩, q⟩
/-- the first place of a thing in a tuple known as its object -/
def ixX (es : List D) (ds : List D) (M : Mp) (Q : DQ) : Prop := ∃ ps y p j z, Dats M es ps ∧ ds = [y] ∧ Dat M y p ∧ SeqAt.shaped (.list ps) = true ∧ SeqAt.shaped p = true ∧ ps[j]? = some z ∧ PyData.eqv z p = true ∧ (∀ (m : Nat) (z' : PyData), m < j → ps[m]? = some z' → PyData.eqv z' p = false) ∧ Q (.int (j : Nat)) M
def wIxX (wo : WE) (u : WA) : WE := fun ρ M Q => wo ρ M fun x M1 => ∃ p es, x = .ref p ∧ M1 p = some (.tx es) ∧ u ρ M1 fun ds M2 => M2 p = some (.tx es) ∧ ixX es ds M2 Q
theorem pd_ixX (hu : Ru X) {a e : Expr} {wa : WE} {u : WA} {apos pos : Pos} (ho : PE X a (tD X.K wa)) (ha : PA X [e] (tDA X.K u)) (hb : plainBase a = true) (hs : notStar e = true) (hline : (apos.endLine == pos.line) = true) :
    PE X (.Call (.Attribute a "index" apos) [e] [] pos) (tD X.K (wIxX wa u)) := by
  have hall : [e].all notStar = true := by simpa using hs
  refine ⟨fun pins s σ H Q I h => ?_⟩
  obtain ⟨ρ, M, F, Q0, st, q, g⟩ := h
  have few : ((backTo pos (starEach [e] X.env)).all (fun x => !x.1) && (backToKw pos (keywordEach [] X.env)).all (fun x => x.1.isSome) && decide ([e].length + ([] : List Keyword).length + (if ([] : List Keyword).isEmpty then 0 else 1) < 30)) = true := by
    have e1 : (backTo pos (starEach [e] X.env)).all (fun x => !x.1) = true := by
      have b1 := back_any (env := X.env) (pos := pos) hall
      rw [List.all_eq_true]
      intro x hx
      rw [List.any_eq_false] at b1
      simpa using b1 x hx
    rw [e1]
    rfl
  refine wpAny_Call_method_late (base_plain hb _ _ _) few hline rfl (thn (ho.run pins s σ H (fun v H1 => ∃ x M1, Rep X.K H1 x v ∧ (∃ p es, x = .ref p ∧ M1 p = some (.tx es) ∧ u ρ M1 fun ds M2 => M2 p = some (.tx es) ∧ ixX es ds M2 Q0) ∧ TupS X.K H H1 ∧ Frm F H H1 M1 ∧ RepM X.K H1 M1) I ⟨ρ, M, F, _, st, q, fun x M1 v H1 q1 t1 f1 r1 p1 => ⟨x, M1, p1, q1, t1, f1, r1⟩⟩) fun v s1 h1 => ?_)
  obtain ⟨x, H1, I1, r1, dx, M1, px, ⟨p, es, rfl, hp, q1⟩, t1, f1, m1⟩ := h1
  cases px
  cases r1
  obtain ⟨vs, hH, rvs⟩ := m1 _ _ hp
  obtain ⟨⟨its, _, _, hobj⟩, _, _⟩ := I1.hok _ _ hH
  refine ⟨"tuple", "tuple.index", PySem.F.plainAttrs_tuple, PySem.F.slot_tuple_index, PySem.F.type_tuple_index, ⟨_, hobj, rfl⟩, fun b eb => by cases eb; exact ⟨_, hobj, rfl⟩, ?_⟩
  have run := ha.run pos pins s1 σ H1 (fun us H2 => ∃ ds M2, Reps X.K H2 ds us ∧ (M2 p = some (.tx es) ∧ ixX es ds M2 Q0) ∧ TupS X.K H1 H2 ∧ Frm F H1 H2 M2 ∧ RepM X.K H2 M2) I1 ⟨ρ, M1, F, _, st.next t1 f1 m1, q1, fun ds M2 us H2 q2 t2 f2 r2 p2 => ⟨ds, M2, p2, q2, t2, f2, r2⟩⟩
  have es1 := star_of (env := X.env) hs [] 
  rw [es1] at run ⊢
  refine Calls.callWith_builtin (by rfl) (Calls.evalArgs_plain ?_)
  refine thn run fun us s2 h2 => ?_
  obtain ⟨zs, H2, I2, r2, ds, M2, p2, ⟨hp2, ps, y, d, j, z, hd, rfl, hy, sl, sd, hz, hzj, hno, q2⟩, t2, f2, m2⟩ := h2
  obtain ⟨w1, rfl, rw1⟩ := p2.one
  obtain ⟨vs2, hH2, rvs2⟩ := m2 _ _ hp2
  exact mt_xidx hu pins s2 σ H2 (.ref p) [w1] _ us Q I2 rfl r2 ⟨p, vs2, w1, d, ps, j, z, rfl, rfl, hH2, hd.dp m2 rvs2, hy.dp m2 rw1, sl, sd, hz, hzj, hno, (g.from t1 f1).from t2 f2 _ M2 _ H2 q2 (.refl _) ((st.fr.next f1).next f2).frm m2 rfl⟩
end
end DL

set_option Elab.async false
set_option linter.all false
set_option maxRecDepth 100000
set_option maxHeartbeats 8000000
/-! DLzb: list(zip(a list, a tuple)): new pairs in a new list. -/
namespace DL
open PySem PySem.Spec PyProof.Rows L2
theorem zip_no_len : typeLookup (.type "zip") "__len__" = pure none := am_miss_of_fast (by decide +kernel)
theorem zip_no_hint : typeLookup (.type "zip") "__length_hint__" = pure none := am_miss_of_fast (by decide +kernel)
section
variable {prog : Program} {w : World} {A : Around} {E : Value → Shared → Prop} {s : Shared}
variable {z TI TO T i1 i2 : Addr} {fp1 fp2 : List Addr} {n1 n2 i : Nat} {P1 P2 : Nat → Value → Prop} {St1 St2 : Nat → Heap → Prop} {f : Bool} {oT : Obj}
/-- the next pair, while the first tuple is still held by another -/
theorem held_item {Q : Option Value → Shared → Prop} (S : ZipSep2 z TI TO i1 i2 fp1 fp2) (D1 : Draws prog w A.in1 i1 fp1 n1 P1 St1) (D2 : Draws prog w A.in1 i2 fp2 n2 P2 St2) (hz : IsZipHeld s.heap z TI TO T f) (hT : s.heap.get? T = some oT) (hTI : IsTupOf2 s.heap TI (.ref i1) (.ref i2)) (st1 : St1 i s.heap) (st2 : St2 i s.heap) (b1 : i < n1) (b2 : i < n2)
    (hQ : ∀ x1 x2 h' tk, P1 i x1 → P2 i x2 → IsZipHeld h' z TI TO T true → St1 (i + 1) h' → St2 (i + 1) h' → IsTupOf2 h' s.heap.objs.size x1 x2 → (∀ c o, c ≠ z → c ≠ i1 → c ≠ i2 → s.heap.get? c = some o → h'.get? c = some o) → Q (some (.ref s.heap.objs.size)) { s with heap := h', toks := tk }) :
    wpAny (model prog w) A (pyNext (.ref z)) Q E s := by
  have ty : s.TypeIs (.ref z) "zip" := ⟨_, hz, rfl⟩
  obtain ⟨h0, g, d, tk0, os⟩ := s
  unfold pyNext
  refine wpAny_bind (wpAny_attempt (wpAny_callSpecial?_slot (name := Str.ofString "__next__") ty F.slot_zip_next (wpAny_call_entry F.slot_zip_next ty F.entry_zip_next ?_ (F.args_zip_next_1 _))))
  show wpAny _ _ (field (.ref z) 2 >>= _) _ _ _
  refine wpAny_bind (wpAny_field hz rfl (x := .bool false) rfl ?_)
  show wpAny _ _ (field (.ref z) 3 >>= _) _ _ _
  refine wpAny_bind (wpAny_field hz rfl (x := .ref TI) rfl (wpAny_bind (wpAny_seqItems hTI rfl ?_)))
  show wpAny _ _ (Builtin.SmallTypes.ownedTupleIsFree (.ref z) >>= _) _ _ _
  refine wpAny_bind (wpAny_tupleHeld_zip hz hT fun g1 hz1 e1 => ?_)
  replace hz1 : IsZipHeld g1 z TI TO T true := hz1
  replace e1 : Heap.SameBut z h0 g1 := e1
  simp only [Bool.false_eq_true, if_false]
  refine wpAny_bind ?_
  rw [← Array.forIn_toList]
  simp only [List.forIn_cons, List.forIn_nil]
  refine wpAny_bind (wpAny_bind (wpAny_holding ?_))
  show wpAny _ _ (Builtin.SmallTypes.nextOf (.ref i1) >>= _) _ _ ⟨g1, g, d, tk0, os⟩
  refine wpAny_bind (D1.item i _ _ _ b1 (D1.over st1 e1 S.zf1) fun x1 g2 tk1 p1 q1 e2 => wpAny_pure (wpAny_pure ?_))
  replace e2 : Heap.SameBut i1 g1 g2 := e2
  refine wpAny_bind (wpAny_bind (wpAny_holding ?_))
  show wpAny _ _ (Builtin.SmallTypes.nextOf (.ref i2) >>= _) _ _ ⟨g2, g, d, tk1, os⟩
  refine wpAny_bind (D2.item i _ _ _ b2 (D2.over (D2.over st2 e1 S.zf2) e2 S.sep1_2) fun x2 g3 tk2 p2 q2 e3 => wpAny_pure (wpAny_pure (wpAny_pure ?_)))
  replace e3 : Heap.SameBut i2 g2 g3 := e3
  show wpAny _ _ (newTuple [x1, x2] >>= _) _ _ ⟨g3, g, d, tk2, os⟩
  refine wpAny_bind (wpAny_newTuple ?_)
  have sz : g3.objs.size = h0.objs.size := by rw [e3.1, e2.1, e1.1]
  have pu : ∀ c o, g3.get? c = some o → (g3.push { cls := .type "tuple", data := .seq #[x1, x2] }).get? c = some o := fun c o e => Heap.get?_push_of_some _ e
  have new : IsTupOf2 (g3.push { cls := .type "tuple", data := .seq #[x1, x2] }) g3.objs.size x1 x2 := Heap.get?_push_size _ rfl
  refine wpAny_pure ⟨_, rfl, wpAny_pure ?_⟩
  show Q (some (.ref g3.objs.size)) _
  rw [sz] at new ⊢
  exact hQ x1 x2 _ tk2 p1 p2 (pu _ _ (e3.extBut _ _ S.zi2 (e2.extBut _ _ S.zi1 hz1))) (D1.frame _ _ _ (D1.over q1 e3 S.sep2_1) fun b _ o e => pu b o e) (D2.frame _ _ _ q2 fun b _ o e => pu b o e) new
    fun c o c1 c2 c3 e => pu c o (e3.extBut _ _ c3 (e2.extBut _ _ c2 (e1.extBut _ _ c1 e)))
/-- the end, while the first tuple is still held by another -/
theorem held_end {Q : Option Value → Shared → Prop} (S : ZipSep2 z TI TO i1 i2 fp1 fp2) (D1 : Draws prog w A.in1 i1 fp1 n1 P1 St1) (D2 : Draws prog w A.in1 i2 fp2 n2 P2 St2) (hz : IsZipHeld s.heap z TI TO T f) (hT : s.heap.get? T = some oT) (hTI : IsTupOf2 s.heap TI (.ref i1) (.ref i2)) (st1 : St1 i s.heap) (st2 : St2 i s.heap) (b1 : i ≤ n1) (b2 : i ≤ n2) (hend : i = n1 ∨ i = n2)
    (hQ : ∀ h' tk, (∀ c o, c ≠ z → c ≠ i1 → c ≠ i2 → s.heap.get? c = some o → h'.get? c = some o) → Q none { s with heap := h', toks := tk }) :
    wpAny (model prog w) A (pyNext (.ref z)) Q E s := by
  have ty : s.TypeIs (.ref z) "zip" := ⟨_, hz, rfl⟩
  obtain ⟨h0, g, d, tk0, os⟩ := s
  unfold pyNext
  refine wpAny_bind (wpAny_attempt (wpAny_callSpecial?_slot (name := Str.ofString "__next__") ty F.slot_zip_next (wpAny_call_entry F.slot_zip_next ty F.entry_zip_next ?_ (F.args_zip_next_1 _))))
  show wpAny _ _ (field (.ref z) 2 >>= _) _ _ _
  refine wpAny_bind (wpAny_field hz rfl (x := .bool false) rfl ?_)
  show wpAny _ _ (field (.ref z) 3 >>= _) _ _ _
  refine wpAny_bind (wpAny_field hz rfl (x := .ref TI) rfl (wpAny_bind (wpAny_seqItems hTI rfl ?_)))
  show wpAny _ _ (Builtin.SmallTypes.ownedTupleIsFree (.ref z) >>= _) _ _ _
  refine wpAny_bind (wpAny_tupleHeld_zip hz hT fun g1 hz1 e1 => ?_)
  replace e1 : Heap.SameBut z h0 g1 := e1
  simp only [Bool.false_eq_true, if_false]
  refine wpAny_bind ?_
  rw [← Array.forIn_toList]
  simp only [List.forIn_cons, List.forIn_nil]
  refine wpAny_bind (wpAny_bind (wpAny_holding ?_))
  show wpAny _ _ (Builtin.SmallTypes.nextOf (.ref i1) >>= _) _ _ ⟨g1, g, d, tk0, os⟩
  by_cases hlt : i < n1
  · have hi2 : i = n2 := by omega
    refine wpAny_bind (D1.item i _ _ _ hlt (D1.over st1 e1 S.zf1) fun x1 g2 tk1 p1 q1 e2 => wpAny_pure (wpAny_pure ?_))
    replace e2 : Heap.SameBut i1 g1 g2 := e2
    refine wpAny_bind (wpAny_bind (wpAny_holding ?_))
    show wpAny _ _ (Builtin.SmallTypes.nextOf (.ref i2) >>= _) _ _ ⟨g2, g, d, tk1, os⟩
    refine wpAny_bind (D2.done ⟨g2, g, d, tk1, os⟩ _ _ (by rw [← hi2]; exact D2.over (D2.over st2 e1 S.zf2) e2 S.sep1_2) fun g3 e e3 he => ?_)
    replace e3 : Heap.ExtBut i2 g2 g3 := e3
    obtain ⟨o, ho, hc⟩ := he
    refine wpAny_bind (wpAny_isInstance (T := "StopIteration") (b := true) ⟨o, ho, hc⟩ isSubtype_stop (wpAny_pure ?_))
    exact hQ g3 tk1 fun c o c1 c2 c3 e => e3 _ _ c3 (e2.extBut _ _ c2 (e1.extBut _ _ c1 e))
  · have hi1 : i = n1 := by omega
    refine wpAny_bind (D1.done ⟨g1, g, d, tk0, os⟩ _ _ (by rw [← hi1]; exact D1.over st1 e1 S.zf1) fun g2 e e2 he => ?_)
    replace e2 : Heap.ExtBut i1 g1 g2 := e2
    obtain ⟨o, ho, hc⟩ := he
    refine wpAny_bind (wpAny_isInstance (T := "StopIteration") (b := true) ⟨o, ho, hc⟩ isSubtype_stop (wpAny_pure ?_))
    exact hQ g2 tk0 fun c o c1 c2 c3 e => e2 _ _ c2 (e1.extBut _ _ c1 e)
end
/-! ### a zip that is walked while all its pairs are held -/
def ZSt (I a b : Addr) (i : Nat) (h : Heap) : Prop := (i = 0 ∧ tnM I a b 0 h) ∨ (0 < i ∧ ∃ (T : Addr) (f : Bool) (oT : Obj), (oT.cls = .type "tuple" ∧ T ∉ fpM I) ∧ h.get? T = some oT ∧ (IsZipHeld h (I + 4) (I + 2) (I + 3) T f ∧ IsTupOf2 h (I + 2) (.ref I) (.ref (I + 1))) ∧ h.IsListIter I a i ∧ h.IsTupleIter (I + 1) b i)
theorem ZSt.stay {I a b : Addr} {i : Nat} {h h' : Heap} (z : ZSt I a b i h) (k : ∀ c o, (c ∈ fpM I ∨ o.cls = .type "tuple") → h.get? c = some o → h'.get? c = some o) : ZSt I a b i h' := by
  rcases z with ⟨e, ⟨t1, t2⟩, ⟨p, q, t3⟩, t4, t5⟩ | ⟨e, T, f, oT, ⟨o1, o2⟩, t0, ⟨t1, t2⟩, t4, t5⟩
  · exact .inl ⟨e, ⟨k _ _ (.inl (by simp)) t1, k _ _ (.inl (by simp)) t2⟩, ⟨p, q, k _ _ (.inl (by simp)) t3⟩, t4.at fun o z => k _ _ (.inl (by simp)) z, t5.at fun o z => k _ _ (.inl (by simp)) z⟩
  · exact .inr ⟨e, T, f, oT, ⟨o1, o2⟩, k _ _ (.inr o1) t0, ⟨k _ _ (.inl (by simp)) t1, k _ _ (.inl (by simp)) t2⟩, t4.at fun o z => k _ _ (.inl (by simp)) z, t5.at fun o z => k _ _ (.inl (by simp)) z⟩
section
variable {prog : Program} {w : World} {A : Around} {E : Value → Shared → Prop} {s : Shared} {I a b i : Nat} {us vs : Array Value}
theorem zs_next {x y : Value} {Q : Option Value → Shared → Prop} (hd : A.in1.handled = none) (ha : a < I) (hb : b < I) (z : ZSt I a b i s.heap) (hl : s.heap.IsList a us) (ht : s.heap.IsTuple b vs) (hx : us[i]? = some x) (hy : vs[i]? = some y)
    (hQ : ∀ h' tk, ZSt I a b (i + 1) h' → IsTupOf2 h' s.heap.objs.size x y → (∀ c o, c ∉ fpM I → s.heap.get? c = some o → h'.get? c = some o) → Q (some (.ref s.heap.objs.size)) { s with heap := h', toks := tk }) :
    wpAny (model prog w) A (pyNext (.ref (I + 4))) Q E s := by
  have S := sepM ha hb
  have b1 : i < us.size := (Array.getElem?_eq_some_iff.mp hx).1
  have b2 : i < vs.size := (Array.getElem?_eq_some_iff.mp hy).1
  have D1 := Draws.list (prog := prog) (w := w) hd I a (Nat.ne_of_lt ha) us
  have D2 := Draws.tuple (prog := prog) (w := w) hd (I + 1) b (Nat.ne_of_lt (Nat.lt_succ_of_lt hb)) vs
  have kp : ∀ {h' : Heap}, (∀ c o, c ≠ I + 4 → c ≠ I → c ≠ I + 1 → s.heap.get? c = some o → h'.get? c = some o) → ∀ c o, c ∉ fpM I → s.heap.get? c = some o → h'.get? c = some o := fun {h'} k c o hc e => by
    simp only [fpM, List.mem_cons, List.not_mem_nil, or_false, not_or] at hc
    exact k c o hc.1 hc.2.2.2.1 hc.2.2.2.2 e
  have apart : s.heap.objs.size ∉ fpM I := fun h => by
    have zl : I + 4 < s.heap.objs.size := by
      rcases z with ⟨_, ⟨t1, _⟩, _⟩ | ⟨_, _, _, _, _, _, ⟨t1, _⟩, _⟩ <;> exact Heap.lt_size t1
    simp only [fpM, List.mem_cons, List.not_mem_nil, or_false] at h
    omega
  have zx : ∀ {x1}, us[i]? = some x1 → x1 = x := fun {x1} e => Option.some.inj (e.symm.trans hx)
  have zy : ∀ {y1}, vs[i]? = some y1 → y1 = y := fun {y1} e => Option.some.inj (e.symm.trans hy)
  rcases z with ⟨rfl, ⟨t1, t2⟩, ⟨p, q, t3⟩, t4, t5⟩ | ⟨e, T, f, oT, ⟨o1, o2⟩, t0, ⟨t1, t2⟩, t4, t5⟩
  · refine wpAny_pyNext_zipD2_item (i := 0) S D1 D2 t1 t2 t3 ⟨t4, hl⟩ ⟨t5, ht⟩ b1 b2 fun x1 x2 h' tk y1 y2 z1 hTO d1 d2 hN hsz hk => ?_
    obtain rfl := zx y1
    obtain rfl := zy y2
    refine hQ h' tk (.inr ⟨Nat.succ_pos 0, s.heap.objs.size, false, _, ⟨rfl, apart⟩, hN, ⟨z1, ?_⟩, d1.1, d2.1⟩) hN ?_
    · exact hk _ _ S.TIz S.TITO S.TIi1 S.TIi2 t2
    · intro c o hc e
      simp only [fpM, List.mem_cons, List.not_mem_nil, or_false, not_or] at hc
      exact hk c o hc.1 hc.2.2.1 hc.2.2.2.1 hc.2.2.2.2 e
  · refine held_item (i := i) S D1 D2 t1 t0 t2 ⟨t4, hl⟩ ⟨t5, ht⟩ b1 b2 fun x1 x2 h' tk y1 y2 z1 d1 d2 hN hk => ?_
    obtain rfl := zx y1
    obtain rfl := zy y2
    have kk := kp hk
    refine hQ h' tk (.inr ⟨Nat.succ_pos i, T, true, oT, ⟨o1, o2⟩, kk _ _ o2 t0, ⟨z1, ?_⟩, d1.1, d2.1⟩) hN kk
    exact hk _ _ S.TIz S.TIi1 S.TIi2 t2
theorem zs_end {Q : Option Value → Shared → Prop} (hd : A.in1.handled = none) (ha : a < I) (hb : b < I) (z : ZSt I a b i s.heap) (hl : s.heap.IsList a us) (ht : s.heap.IsTuple b vs) (b1 : i ≤ us.size) (b2 : i ≤ vs.size) (hend : i = us.size ∨ i = vs.size)
    (hQ : ∀ h' tk, (∀ c o, c ∉ fpM I → s.heap.get? c = some o → h'.get? c = some o) → Q none { s with heap := h', toks := tk }) :
    wpAny (model prog w) A (pyNext (.ref (I + 4))) Q E s := by
  have S := sepM ha hb
  have D1 := Draws.list (prog := prog) (w := w) hd I a (Nat.ne_of_lt ha) us
  have D2 := Draws.tuple (prog := prog) (w := w) hd (I + 1) b (Nat.ne_of_lt (Nat.lt_succ_of_lt hb)) vs
  rcases z with ⟨rfl, ⟨t1, t2⟩, ⟨p, q, t3⟩, t4, t5⟩ | ⟨e, T, f, oT, ⟨o1, o2⟩, t0, ⟨t1, t2⟩, t4, t5⟩
  · refine wpAny_pyNext_zipD2_end (i := 0) S D1 D2 t1 t2 t3 ⟨t4, hl⟩ ⟨t5, ht⟩ b1 b2 hend fun h' tk hk => hQ h' tk fun c o hc e => ?_
    simp only [fpM, List.mem_cons, List.not_mem_nil, or_false, not_or] at hc
    exact hk c o hc.1 hc.2.2.1 hc.2.2.2.1 hc.2.2.2.2 e
  · refine held_end (i := i) S D1 D2 t1 t0 t2 ⟨t4, hl⟩ ⟨t5, ht⟩ b1 b2 hend fun h' tk hk => hQ h' tk fun c o hc e => ?_
    simp only [fpM, List.mem_cons, List.not_mem_nil, or_false, not_or] at hc
    exact hk c o hc.1 hc.2.2.2.1 hc.2.2.2.2 e
/-- the pairs so far, in order -/
structure Prs (I : Nat) (us vs : Array Value) (h : Heap) (ts : List Nat) : Prop where
  at_ : ∀ (j t : Nat), ts[j]? = some t → ∃ x y, us[j]? = some x ∧ vs[j]? = some y ∧ IsTupOf2 h t x y
  rng : ∀ t ∈ ts, I + 5 < t
  inc : ts.Pairwise (· < ·)
theorem Prs.stay {h h' : Heap} {ts : List Nat} (p : Prs I us vs h ts) (k : ∀ c o, I + 5 < c → h.get? c = some o → h'.get? c = some o) : Prs I us vs h' ts :=
  ⟨fun j t e => let ⟨x, y, e1, e2, e3⟩ := p.at_ j t e; ⟨x, y, e1, e2, k _ _ (p.rng t (List.mem_of_getElem? e)) e3⟩, p.rng, p.inc⟩
theorem Prs.lt {h : Heap} {ts : List Nat} (p : Prs I us vs h ts) {t : Nat} (ht : t ∈ ts) : t < h.objs.size := by
  obtain ⟨j, hj⟩ := List.getElem?_of_mem ht
  obtain ⟨x, y, _, _, e⟩ := p.at_ j t hj
  exact Heap.lt_size e
theorem Prs.more {h h' : Heap} {ts : List Nat} {x y : Value} {N : Nat} (p : Prs I us vs h ts) (k : ∀ c o, I + 5 < c → h.get? c = some o → h'.get? c = some o) (hN : h.objs.size ≤ N) (h5 : I + 5 < N) (hx : us[ts.length]? = some x) (hy : vs[ts.length]? = some y) (e : IsTupOf2 h' N x y) : Prs I us vs h' (ts ++ [N]) := by
  have p' := p.stay k
  refine ⟨fun j t ej => ?_, fun t ht => ?_, List.pairwise_append.mpr ⟨p.inc, List.pairwise_singleton _ _, fun t ht u hu => ?_⟩⟩
  · rcases Nat.lt_or_ge j ts.length with q | q
    · rw [List.getElem?_append_left q] at ej
      exact p'.at_ j t ej
    · have hj : j < (ts ++ [N]).length := (List.getElem?_eq_some_iff.mp ej).1
      rw [List.length_append, List.length_singleton] at hj
      have e2 : j = ts.length := by omega
      subst e2
      rw [List.getElem?_append_right (Nat.le_refl _), Nat.sub_self] at ej
      cases ej
      exact ⟨x, y, hx, hy, e⟩
  · rcases List.mem_append.mp ht with q | q
    · exact p.rng t q
    · rw [List.mem_singleton.mp q]; exact h5
  · rw [List.mem_singleton.mp hu]
    exact Nat.lt_of_lt_of_le (p.lt ht) hN
abbrev lstO (acc : Array Value) (cc : Nat) : Obj := { cls := .type "list", dict := none, data := .seq acc cc, slots := #[] }
/-- list.extend's loop over such a zip -/
theorem zip_loop {R : Result → Shared → Prop} (hd : A.in1.in1.handled = none) (ha : a < I) (hb : b < I) {n : Nat} (hn : n = min us.size vs.size) (zn : n ≤ sizeLine) (res : Value) {h0 : Heap} (low : ∀ c o, h0.get? c = some o → c < I) (hl0 : h0.IsList a us) (ht0 : h0.IsTuple b vs) :
    ∀ (k i : Nat) (s : Shared) (acc : Array Value) (cc : Nat) (ts : List Nat), n - i = k → i ≤ n → ZSt I a b i s.heap → s.heap.get? (I + 5) = some (lstO acc cc) → acc.toList = ts.map Value.ref → ts.length = i → Prs I us vs s.heap ts → (∀ c o, h0.get? c = some o → s.heap.get? c = some o) →
    (∀ h' tk acc' cc' ts', h'.get? (I + 5) = some (lstO acc' cc') → acc'.toList = ts'.map Value.ref → ts'.length = n → Prs I us vs h' ts' → (∀ c o, h0.get? c = some o → h'.get? c = some o) → R (.ok (.ret res)) { s with heap := h', toks := tk }) →
    codeAny (model prog w) A (.builtin "list.extend.loop" ⟨[.ref (I + 5), .ref (I + 4), res], []⟩) R s := by
  have hS : (I + 5 : Nat) ∉ fpM I := fun h => by
    simp only [fpM, List.mem_cons, List.not_mem_nil, or_false] at h
    omega
  have hi : ∀ {c : Nat}, I + 5 < c → c ∉ fpM I := fun {c} hc h => by
    simp only [fpM, List.mem_cons, List.not_mem_nil, or_false] at h
    omega
  have lo : ∀ {c : Nat}, c < I → c ∉ fpM I ∧ c ≠ I + 5 := fun {c} hc => ⟨fun h => by
    simp only [fpM, List.mem_cons, List.not_mem_nil, or_false] at h
    omega, by omega⟩
  intro k
  induction k with
  | zero =>
    intro i s acc cc ts hk hi' z hL hacc hlen pr old fin
    have e : i = n := by omega
    obtain ⟨ol, e1, r1⟩ := hl0
    obtain ⟨ot, e2, r2⟩ := ht0
    refine codeAny_builtin F.entry_extend_loop ?_
    rw [Around.under_plainId F.plain_extend_loop _]
    show wpAny _ A.in1 (pyNext (.ref (I + 4)) >>= _) _ _ s
    refine wpAny_bind (zs_end hd ha hb z ⟨ol, old _ _ e1, r1⟩ ⟨ot, old _ _ e2, r2⟩ (by omega) (by omega) (by omega) fun h' tk hk' => wpAny_pure ?_)
    have pr' := pr.stay (h' := h') fun c o hc e => hk' c o (hi hc) e
    exact fin h' tk acc cc ts (hk' _ _ hS hL) hacc (by omega) pr' fun c o e => hk' c o (lo (low c o e)).1 (old c o e)
  | succ k ih =>
    intro i s acc cc ts hk hi' z hL hacc hlen pr old fin
    have b1 : i < us.size := by omega
    have b2 : i < vs.size := by omega
    have ol : s.heap.IsList a us := by obtain ⟨ol, e1, r1⟩ := hl0; exact ⟨ol, old _ _ e1, r1⟩
    have ot : s.heap.IsTuple b vs := by obtain ⟨ot, e2, r2⟩ := ht0; exact ⟨ot, old _ _ e2, r2⟩
    refine codeAny_builtin F.entry_extend_loop ?_
    rw [Around.under_plainId F.plain_extend_loop _]
    show wpAny _ A.in1 (pyNext (.ref (I + 4)) >>= _) _ _ s
    refine wpAny_bind (zs_next hd ha hb z ol ot (Array.getElem?_eq_getElem b1) (Array.getElem?_eq_getElem b2) fun h1 tk z1 hN hk1 => ?_)
    have hL1 := hk1 _ _ hS hL
    have za : acc.size = i := by rw [← Array.length_toList, hacc, List.length_map, hlen]
    show wpAny _ A.in1 (updateSeq (I + 5) (·.push (.ref s.heap.objs.size)) >>= _) _ _ _
    refine wpAny_bind (wpAny_updateSeq hL1 rfl (wpAny_pure ⟨plainId_quiet F.plain_extend_loop _, ?_⟩) (by rw [za]; omega) (by show (acc.push _).size ≤ sizeLine + 1; rw [Array.size_push, za]; omega))
    have sb := Heap.SameBut.update h1 (I + 5) (Obj.mapSeq (·.push (Value.ref s.heap.objs.size)))
    have hL2 := Heap.get?_update_self (Obj.mapSeq (·.push (Value.ref s.heap.objs.size))) hL1 rfl
    generalize h1.update (I + 5) (Obj.mapSeq (·.push (Value.ref s.heap.objs.size))) = h2 at sb hL2 ⊢
    have k12 : ∀ c o, c ≠ I + 5 → h1.get? c = some o → h2.get? c = some o := fun c o hc e => sb.extBut _ _ hc e
    have h5 : I + 5 < s.heap.objs.size := Heap.lt_size hL
    have pr2 : Prs I us vs h2 (ts ++ [s.heap.objs.size]) := pr.more (fun c o hc e => k12 c o (by omega) (hk1 c o (hi hc) e)) (Nat.le_refl _) h5 (by rw [hlen]; exact Array.getElem?_eq_getElem b1) (by rw [hlen]; exact Array.getElem?_eq_getElem b2) (k12 _ _ (by omega) hN)
    refine ih (i + 1) _ (acc.push (.ref s.heap.objs.size)) _ (ts ++ [s.heap.objs.size]) (by omega) (by omega) (z1.stay fun c o hc e => k12 c o (fun q => ?_) e) hL2 (by rw [Array.toList_push, hacc, List.map_append]; rfl) (by rw [List.length_append, hlen]; rfl) pr2 (fun c o e => k12 c o (lo (low c o e)).2 (hk1 c o (lo (low c o e)).1 (old c o e))) fin
    subst q
    rcases hc with q | q
    · exact hS q
    · rw [hL1] at e
      cases e
      have q' : Value.type "list" = Value.type "tuple" := q
      injection q' with q''
      exact absurd q'' (by decide)
/-- list.extend from such a zip -/
theorem zip_ext {R : Result → Shared → Prop} (hd : A.in1.in1.handled = none) (ha : a < I) (hb : b < I) {n cz : Nat} (hn : n = min us.size vs.size) (zn : n ≤ sizeLine) (res : Value) {h0 : Heap} (low : ∀ c o, h0.get? c = some o → c < I) (hl0 : h0.IsList a us) (ht0 : h0.IsTuple b vs)
    (tn : tnM I a b 0 s.heap) (hL : s.heap.get? (I + 5) = some (lstO #[] cz)) (old : ∀ c o, h0.get? c = some o → s.heap.get? c = some o)
    (fin : ∀ h' tk acc' cc' ts', h'.get? (I + 5) = some (lstO acc' cc') → acc'.toList = ts'.map Value.ref → ts'.length = n → Prs I us vs h' ts' → (∀ c o, h0.get? c = some o → h'.get? c = some o) → R (.ok (.ret res)) { s with heap := h', toks := tk }) :
    wpAny (model prog w) A.in1 (Builtin.List.listExtendWith (.ref (I + 5)) (.ref (I + 4)) res)
      (fun fi sx => match fi with | .done fl => R (.ok fl) sx | .again co => co.quiet = true ∧ codeAny (model prog w) A co R sx) (fun ex sx => R (.error ex) sx) s := by
  have zt : s.TypeIs (.ref (I + 4)) "zip" := ⟨_, tn.1.1, rfl⟩
  have apart : ¬ ((I + 5 : Nat) = I + 4) := by omega
  unfold Builtin.List.listExtendWith
  refine wpAny_bind (wpAny_typeOf zt ?_)
  have q1 : Builtin.List.listSameRef (.ref (I + 5)) (.ref (I + 4)) = false := by simp [Builtin.List.listSameRef]
  have q2 : (Value.type "zip" == Value.type "list") = false := by decide
  have q3 : (Value.type "zip" == Value.type "tuple") = false := by decide
  simp only [q1, q2, q3, Bool.or_false, Bool.false_eq_true, if_false]
  refine wpAny_bind (wpAny_pyIter_zip tn.1.1 ?_)
  refine wpAny_bind (wpAny_holding ?_)
  unfold Builtin.List.listLengthHint
  refine wpAny_bind (wpAny_specialOf zt zip_no_len ?_)
  show wpAny _ A.in1 (specialOf (Value.ref (I + 4)) (Str.ofString "__length_hint__") >>= _) _ _ _
  refine wpAny_bind (wpAny_specialOf zt zip_no_hint ?_)
  refine wpAny_pure ?_
  show wpAny _ A.in1 (rule "list.extend.makes-room" >>= fun _ => Builtin.List.listTouch (.ref (I + 5)) >>= fun _ => again (.builtin "list.extend.loop" ⟨[.ref (I + 5), .ref (I + 4), res], []⟩)) _ _ _
  refine wpAny_bind (wpAny_rule (wpAny_bind ?_))
  show wpAny _ A.in1 (updateSeq (I + 5) (·.push .none) >>= fun _ => updateSeq (I + 5) (·.pop)) _ _ _
  refine wpAny_bind (wpAny_updateSeq hL rfl ?_)
  have g1 := Heap.get?_update_self (Obj.mapSeq (·.push Value.none)) hL rfl
  have k1 := Heap.SameBut.update s.heap (I + 5) (Obj.mapSeq (·.push Value.none))
  generalize s.heap.update (I + 5) (Obj.mapSeq (·.push Value.none)) = hx at g1 k1 ⊢
  refine wpAny_updateSeq (hz := by seq_fits) g1 rfl ?_
  have g2 := Heap.get?_update_self (Obj.mapSeq (·.pop)) g1 rfl
  have k2 := Heap.SameBut.update hx (I + 5) (Obj.mapSeq (·.pop))
  generalize hx.update (I + 5) (Obj.mapSeq (·.pop)) = hy at g2 k2 ⊢
  have kk : ∀ c o, c ≠ I + 5 → s.heap.get? c = some o → hy.get? c = some o := fun c o hc e => k2.extBut _ _ hc (k1.extBut _ _ hc e)
  have hS : ∀ c ∈ fpM I, c ≠ I + 5 := fun c h e => by
    rw [e] at h
    have h' : (I + 5 : Nat) ∈ ([I + 4, I + 2, I + 3, I, I + 1] : List Nat) := h
    simp at h'
  refine wpAny_pure ⟨plainId_quiet F.plain_extend_loop _, zip_loop hd ha hb hn zn res low hl0 ht0 n 0 _ #[] _ [] rfl (Nat.zero_le _) ?_ g2 rfl rfl ⟨fun j t e => by simp at e, fun t h => (nomatch h), List.Pairwise.nil⟩ (fun c o e => kk c o (Nat.ne_of_lt (Nat.lt_trans (low c o e) (Nat.lt_add_of_pos_right (by decide)))) (old c o e)) fin⟩
  refine .inl ⟨rfl, ?_⟩
  obtain ⟨⟨t1, t2⟩, ⟨p, q, t3⟩, t4, t5⟩ := tn
  exact ⟨⟨kk _ _ (hS _ (by simp)) t1, kk _ _ (hS _ (by simp)) t2⟩, ⟨p, q, kk _ _ (hS _ (by simp)) t3⟩, t4.at fun o z => kk _ _ (hS _ (by simp)) z, t5.at fun o z => kk _ _ (hS _ (by simp)) z⟩
/-- list(zip(a list, a tuple)) -/
theorem call_zipl {Q : Value → Shared → Prop} (hd : A.handled = none) (ha : a < I) (hb : b < I) {n : Nat} (hn : n = min us.size vs.size) (zn : n ≤ sizeLine) {h0 : Heap} (low : ∀ c o, h0.get? c = some o → c < I) (hl0 : h0.IsList a us) (ht0 : h0.IsTuple b vs)
    (tn : tnM I a b 0 s.heap) (hI : s.heap.objs.size = I + 5) (old : ∀ c o, h0.get? c = some o → s.heap.get? c = some o)
    (fin : ∀ h' tk acc' cc' ts', h'.get? (I + 5) = some (lstO acc' cc') → acc'.toList = ts'.map Value.ref → ts'.length = n → Prs I us vs h' ts' → (∀ c o, h0.get? c = some o → h'.get? c = some o) → Q (.ref (I + 5)) { s with heap := h', toks := tk }) :
    wpAny (model prog w) A (call (.type "list") [.ref (I + 4)]) Q E s := by
  refine callType_codes (Q₁ := fun ob sx => ob = .ref (I + 5) ∧ sx = { s with heap := s.heap.push { cls := .type "list", data := .seq #[] } }) F.called_list (F.typeCall_list_1 _) F.entry_list_init
    (code_list_new _ ⟨by rw [hI], rfl⟩) fun ob sx hx => ?_
  obtain ⟨rfl, rfl⟩ := hx
  have g0 : (s.heap.push { cls := .type "list", data := .seq #[] }).get? (I + 5) = some (lstO #[] 0) := by
    rw [← hI]
    exact Heap.get?_push_size _ rfl
  refine ⟨⟨_, g0, rfl⟩, F.args_list_init_2 _ _, ?_⟩
  show wpAny _ A.in1.in1 (do let was ← Builtin.List.listItems (.ref (I + 5)); Builtin.List.listUpdate (.ref (I + 5)) (fun _ => #[]); letGo was.toList.reverse; Builtin.List.listExtendWith (.ref (I + 5)) (.ref (I + 4)) .none) _ _ _
  refine wpAny_bind ?_
  unfold Builtin.List.listItems
  refine wpAny_bind (wpAny_seqItems g0 rfl (wpAny_pure ?_))
  show wpAny _ _ (updateSeq (I + 5) (fun _ => #[]) >>= fun _ => letGo (#[] : Array Value).toList.reverse >>= fun _ => Builtin.List.listExtendWith (.ref (I + 5)) (.ref (I + 4)) .none) _ _ _
  refine wpAny_bind (wpAny_updateSeq g0 rfl ?_)
  have g1 := Heap.get?_update_self (Obj.mapSeq (fun _ => (#[] : Array Value))) g0 rfl
  have k1 := Heap.SameBut.update (s.heap.push { cls := .type "list", data := .seq #[] }) (I + 5) (Obj.mapSeq (fun _ => (#[] : Array Value)))
  generalize (s.heap.push { cls := .type "list", data := .seq #[] }).update (I + 5) (Obj.mapSeq (fun _ => (#[] : Array Value))) = hy at g1 k1 ⊢
  have kk : ∀ c o, s.heap.get? c = some o → hy.get? c = some o := fun c o e => k1.extBut _ _ (Nat.ne_of_lt (by
    have := Heap.lt_size e
    rw [hI] at this
    exact this)) (Heap.get?_push_of_some _ e)
  refine wpAny_bind (wpAny_letGo ?_)
  obtain ⟨⟨t1, t2⟩, ⟨p, q, t3⟩, t4, t5⟩ := tn
  exact zip_ext (A := A.in1) hd ha hb hn zn .none low hl0 ht0 ⟨⟨kk _ _ t1, kk _ _ t2⟩, ⟨p, q, kk _ _ t3⟩, t4.at fun o z => kk _ _ z, t5.at fun o z => kk _ _ z⟩ g1 (fun c o e => kk c o (old c o e)) fun h' tk acc' cc' ts' e1 e2 e3 e4 e5 => ⟨rfl, fin h' tk acc' cc' ts' e1 e2 e3 e4 e5⟩
end
/-! ### many new objects at once -/
def updT (H : Hp) (L : List (Addr × HO)) : Hp := L.foldl (fun H p => upd H p.1 p.2) H
theorem updT_low {n : Nat} : ∀ (L : List (Addr × HO)) (H : Hp), (∀ p ∈ L, n ≤ p.1) → ∀ b, b < n → updT H L b = H b
  | [], _, _, _, _ => rfl
  | p :: L, H, h, b, hb => by
    show updT (upd H p.1 p.2) L b = H b
    rw [updT_low L _ (fun q hq => h q (List.mem_cons_of_mem _ hq)) b hb]
    exact upd_ne (Nat.ne_of_lt (Nat.lt_of_lt_of_le hb (h p List.mem_cons_self)))
theorem updT_none : ∀ (L : List (Addr × HO)) (H : Hp) (b : Addr), (∀ p ∈ L, p.1 ≠ b) → updT H L b = H b
  | [], _, _, _ => rfl
  | p :: L, H, b, h => by
    show updT (upd H p.1 p.2) L b = H b
    rw [updT_none L _ b fun q hq => h q (List.mem_cons_of_mem _ hq), upd_ne (Ne.symm (h p List.mem_cons_self))]
theorem updT_at : ∀ (L : List (Addr × HO)) (H : Hp), (L.map (·.1)).Nodup → ∀ p ∈ L, updT H L p.1 = some p.2
  | [], _, _, _, h => nomatch h
  | q :: L, H, nd, p, h => by
    rw [List.map_cons, List.nodup_cons] at nd
    show updT (upd H q.1 q.2) L p.1 = some p.2
    rcases List.mem_cons.mp h with rfl | h
    · rw [updT_none L _ _ fun r hr e => nd.1 (by rw [← e]; exact List.mem_map_of_mem (f := (·.1)) hr), upd_same]
    · exact updT_at L _ nd.2 p h
theorem updT_some : ∀ (L : List (Addr × HO)) (H : Hp) (b : Addr) (o : HO), updT H L b = some o → H b = some o ∨ (b, o) ∈ L
  | [], _, _, _, h => .inl h
  | q :: L, H, b, o, h => by
    rcases updT_some L (upd H q.1 q.2) b o h with e | e
    · by_cases hb : b = q.1
      · subst hb
        rw [upd_same] at e
        cases e
        exact .inr List.mem_cons_self
      · rw [upd_ne hb] at e
        exact .inl e
    · exact .inr (List.mem_cons_of_mem _ e)
theorem inv_many {X : Cx} {pins : List (Addr × Obj)} {σ : L2.St} {H : Hp} {s : Shared} {h' : Heap} {t' : Nat} (V : Inv X pins σ H s) (k : ∀ b u, s.heap.get? b = some u → h'.get? b = some u) (L : List (Addr × HO)) (hL : ∀ p ∈ L, s.heap.objs.size ≤ p.1)
    (new : ∀ p ∈ L, ObjOk X.prog X.w (updT H L) h' p.1 p.2) : Inv X pins σ (updT H L) { s with heap := h', toks := t' } := by
  have lo : ∀ b, b < s.heap.objs.size → updT H L b = H b := updT_low L H hL
  have up1 : ∀ b o, H b = some o → updT H L b = some o := fun b o e => by rw [lo b (V.hok.lt e)]; exact e
  refine V.un (t' := t') ⟨fun b u q _ _ _ => k b u q, fun b u q _ _ _ => ⟨u.slots, k b u q⟩, fun b u q n _ => by rw [lo b (Heap.lt_size q)]; exact n, fun b u q _ => ⟨u, k b u q⟩, fun b xs q => up1 b _ q, fun b u xs q => up1 b _ q, fun b ps q => ⟨#[], by rw [up1 b _ q]; simp⟩⟩ fun b o e => ?_
  rcases updT_some L H b o e with q | q
  · exact (V.hok b o q).stay (fun c v _ z => k c v z) (fun c z => up1 c _ z) fun c xs z => up1 c _ z
  · exact new _ q
theorem repm_many {K : PySem.W.Frag} {M : Mp} : ∀ (L : List (Addr × HO)) (H : Hp), (L.map (·.1)).Nodup → (∀ p ∈ L, H p.1 = none) → RepM K H M → RepM K (updT H L) M ∧ TupS K H (updT H L)
  | [], H, _, _, r => ⟨r, .refl _⟩
  | p :: L, H, nd, h, r => by
    rw [List.map_cons, List.nodup_cons] at nd
    have hp := h p List.mem_cons_self
    have r1 : RepM K (upd H p.1 p.2) M := r.more hp
    obtain ⟨a1, a2⟩ := repm_many L (upd H p.1 p.2) nd.2 (fun q hq => by rw [upd_ne fun e => nd.1 (by rw [← e]; exact List.mem_map_of_mem (f := (·.1)) hq)]; exact h q (List.mem_cons_of_mem _ hq)) r1
    exact ⟨a1, (TupS.new hp).trans a2⟩
theorem frm_many {G : Addr → Prop} {M : Mp} : ∀ (L : List (Addr × HO)) (H : Hp), (L.map (·.1)).Nodup → (∀ p ∈ L, H p.1 = none) → FrOk G H M → Frm G H (updT H L) M
  | [], H, _, _, f => f.frm
  | p :: L, H, nd, h, f => by
    rw [List.map_cons, List.nodup_cons] at nd
    have hp := h p List.mem_cons_self
    have f1 := f.more (u := p.2) hp
    exact f1.trans (frm_many L (upd H p.1 p.2) nd.2 (fun q hq => by rw [upd_ne fun e => nd.1 (by rw [← e]; exact List.mem_map_of_mem (f := (·.1)) hq)]; exact h q (List.mem_cons_of_mem _ hq)) (f.next f1))
/-! ### the reading -/
section
variable {X : Cx} {a b : Expr} {wa wb : WE}
def wZipL (wa wb : WE) : WE := fun ρ M Q => wa ρ M fun d M1 => wb ρ M1 fun e M2 => ∃ p xs ys, d = .ref p ∧ e = .tup ys ∧ M2 p = some (.lst xs) ∧ ∀ q, M2 q = none → Q (.ref q) (up M2 q (.lst (zipI xs ys)))
theorem reps_of {K : PySem.W.Frag} {H : Hp} : ∀ {ds : List D} {vs : List V}, ds.length = vs.length → (∀ (i : Nat) d v, ds[i]? = some d → vs[i]? = some v → Rep K H d v) → Reps K H ds vs
  | [], [], _, _ => .nil
  | [], _ :: _, h, _ => nomatch h
  | _ :: _, [], h, _ => nomatch h
  | d :: ds, v :: vs, h, k => .cons (k 0 d v rfl rfl) (reps_of (by simpa using h) fun i d v e1 e2 => k (i + 1) d v e1 e2)
theorem vals_new : ∀ ts : List Nat, Vals (ts.map V.ref) (ts.map Value.ref)
  | [] => .nil
  | _ :: ts => .cons rfl (vals_new ts)
theorem pd_zipL {p1 p2 pos1 pos : Pos} (hc : X.calm = true) (hg : Gl X "list") (hm : X.mg "list" = none) (hg2 : Gl X "zip") (hm2 : X.mg "zip" = none) (ha : PE X a (tD X.K wa)) (hb : PE X b (tD X.K wb)) (hs : starEach [a, b] X.env = (false, eval a X.env) :: starEach [b] X.env) (hs2 : starEach [b] X.env = [(false, eval b X.env)]) :
    PE X (.Call (.Name "list" p1) [.Call (.Name "zip" p2) [a, b] [] pos1] [] pos) (tD X.K (wZipL wa wb)) := by
  refine ⟨fun pins s σ H Q Iv hh => ?_⟩
  obtain ⟨ρ, M, F, Q0, st, q, g⟩ := hh
  have args := pda_cons ha (pda_cons hb pda_nil hs2) hs
  refine wpAny_Call_Name_kw (ld_blt Iv hg hm PyProof.Rows.boot_list (PyProof.Rows.callWith_type1 (rest := []) ?_))
  refine Calls.spliced_cons (wpAny_Call_Name_kw (ld_blt Iv hg2 hm2 PyProof.Rows.boot_zip (PyProof.Rows.callWith_type1 (thn (args.run pos1 pins s σ H (fun vs H1 => ∃ x y vs1 vs2 xs ys M2, vs = [.ref x, .ref y] ∧ H1 x = some (.lst vs1) ∧ SqT X.K H1 y vs2 ∧ Reps X.K H1 xs vs1 ∧ Reps X.K H1 ys vs2 ∧ RepM X.K H1 M2 ∧ TupS X.K H H1 ∧ Frm F H H1 M2 ∧ ∀ q, M2 q = none → Q0 (.ref q) (up M2 q (.lst (zipI xs ys)))) Iv ⟨ρ, M, F, _, st, arg2 q, fun ds M1 vs H1 q1 t1 f1 r1 pp => ?_⟩) fun zs s1 ⟨ws, H1, I1, rr, q1⟩ => ?_) hs (by rw [hs2]; rfl))))
  · obtain ⟨d, e, rfl, x, xs, ys, rfl, rfl, e1, q1⟩ := q1
    obtain ⟨v, u, rfl, pa, pb⟩ := pp.two
    cases pa
    unfold Rep at pb
    obtain ⟨y, us, rfl, s2, p4⟩ := pb
    obtain ⟨vs1, w1, w2⟩ := r1 _ _ e1
    exact ⟨x, y, vs1, us, xs, ys, M1, rfl, w1, s2, w2, p4, r1, t1, f1, q1⟩
  obtain ⟨x, y, vs1, vs2, xs, ys, M2, rfl, w1, w2, rx, ry, rm, t1, f1, q1⟩ := q1
  cases rr with
  | cons k1 rr =>
  cases rr with
  | cons k2 rr =>
  cases rr
  cases k1
  cases k2
  obtain ⟨is1, r1, pl1, _⟩ := I1.list (.of w1)
  obtain ⟨is2, r2, pl2, _⟩ := I1.tuple w2
  have hx : x < s1.heap.objs.size := pl1.lt
  have hy : y < s1.heap.objs.size := pl2.lt
  have zl1 := r1.length
  have zl2 := r2.length
  refine call_mix pl1.isList pl2 fun h1 tn hk hsz => ?_
  refine Calls.spliced_nil ?_
  have zn : min is1.length is2.length ≤ sizeLine := by
    obtain ⟨_, _, _, zz⟩ := I1.list (.of w1)
    omega
  refine call_zipl (I := s1.heap.objs.size) (I1.ok.hd hc) hx hy (n := min is1.length is2.length) (by rw [List.size_toArray, List.size_toArray]) zn (fun c o e => Heap.lt_size e) pl1.isList pl2 tn hsz hk fun h' tk acc cc ts e1 e2 e3 pr old => ?_
  -- what is new
  have nd : ts.Nodup := pr.inc.imp fun h => Nat.ne_of_lt h
  generalize hL : ts.zipIdx.map (fun p => (p.1, HO.tup [vs1.getD p.2 .non, vs2.getD p.2 .non])) = L
  have hL1 : L.map (·.1) = ts := by
    rw [← hL, List.map_map]
    show ts.zipIdx.map Prod.fst = ts
    simp
  have hmem : ∀ p ∈ L, ∃ j, ts[j]? = some p.1 ∧ p.2 = HO.tup [vs1.getD j .non, vs2.getD j .non] := fun p hp => by
    rw [← hL] at hp
    obtain ⟨z, hz, rfl⟩ := List.mem_map.mp hp
    obtain ⟨t, j⟩ := z
    have := List.mem_zipIdx_iff_getElem?.mp hz
    exact ⟨j, this, rfl⟩
  have hin : ∀ j t, ts[j]? = some t → (t, HO.tup [vs1.getD j .non, vs2.getD j .non]) ∈ L := fun j t e => by
    rw [← hL]
    exact List.mem_map.mpr ⟨(t, j), List.mem_zipIdx_iff_getElem?.mpr e, rfl⟩
  have nd2 : ((L ++ [(s1.heap.objs.size + 5, HO.lst (ts.map V.ref))]).map (·.1)).Nodup := by
    rw [List.map_append, hL1]
    refine List.nodup_append.mpr ⟨nd, by simp, fun u hu w hw e => ?_⟩
    have := pr.rng u hu
    rw [List.map_cons, List.map_nil, List.mem_singleton] at hw
    subst hw
    omega
  have far : ∀ p ∈ L ++ [(s1.heap.objs.size + 5, HO.lst (ts.map V.ref))], s1.heap.objs.size ≤ p.1 := fun p hp => by
    rcases List.mem_append.mp hp with h | h
    · obtain ⟨j, ej, _⟩ := hmem p h
      have := pr.rng p.1 (List.mem_of_getElem? ej)
      omega
    · rw [List.mem_singleton.mp h]
      omega
  have Hn : ∀ p ∈ L ++ [(s1.heap.objs.size + 5, HO.lst (ts.map V.ref))], H1 p.1 = none := fun p hp => I1.hok.fresh (far p hp)
  have eH : updT H1 (L ++ [(s1.heap.objs.size + 5, HO.lst (ts.map V.ref))]) = upd (updT H1 L) (s1.heap.objs.size + 5) (.lst (ts.map V.ref)) := by
    unfold updT
    rw [List.foldl_append]
    rfl
  have at_ : ∀ j t, ts[j]? = some t → ∃ u v x' y', vs1[j]? = some u ∧ vs2[j]? = some v ∧ RelV u x' ∧ RelV v y' ∧ IsTupOf2 h' t x' y' := fun j t e => by
    obtain ⟨x', y', a1, a2, a3⟩ := pr.at_ j t e
    rw [List.getElem?_toArray] at a1 a2
    have b1 : j < vs1.length := by have := (List.getElem?_eq_some_iff.mp a1).1; omega
    have b2 : j < vs2.length := by have := (List.getElem?_eq_some_iff.mp a2).1; omega
    obtain ⟨u', c1, c2⟩ := r1.get (List.getElem?_eq_getElem b1)
    obtain ⟨v', d1, d2⟩ := r2.get (List.getElem?_eq_getElem b2)
    rw [a1] at c1
    rw [a2] at d1
    cases c1
    cases d1
    exact ⟨_, _, _, _, List.getElem?_eq_getElem b1, List.getElem?_eq_getElem b2, c2, d2, a3⟩
  have gd : ∀ {l : List V} {j : Nat} {u : V}, l[j]? = some u → l.getD j .non = u := fun e => by rw [List.getD_eq_getElem?_getD, e]; rfl
  have If : Inv X pins σ (updT H1 (L ++ [(s1.heap.objs.size + 5, HO.lst (ts.map V.ref))])) { s1 with heap := h', toks := tk } := by
    refine inv_many I1 old _ far fun p hp => ?_
    rcases List.mem_append.mp hp with h | h
    · obtain ⟨j, ej, e2⟩ := hmem p h
      obtain ⟨u, v, x', y', g1, g2, g3, g4, g5⟩ := at_ j _ ej
      rw [e2, gd g1, gd g2]
      exact ⟨by show 2 ≤ sizeLine; decide, [x', y'], .cons g3 (.cons g4 .nil), ⟨_, g5, rfl, _, rfl⟩⟩
    · rw [List.mem_singleton.mp h]
      refine ⟨by rw [List.length_map, e3]; exact zn, ts.map Value.ref, cc, ?_, ?_⟩
      · exact vals_new ts
      · have ea : acc = (ts.map Value.ref).toArray := by rw [← e2]
        rw [← ea]
        exact e1
  have ndL : (L.map (·.1)).Nodup := by rw [hL1]; exact nd
  have HnL : ∀ p ∈ L, H1 p.1 = none := fun p hp => Hn p (List.mem_append_left _ hp)
  obtain ⟨rm2, tt2⟩ := repm_many (M := M2) L H1 ndL HnL rm
  have ff2 := frm_many (M := M2) L H1 ndL HnL (st.fr.next f1)
  have hpn : updT H1 L (s1.heap.objs.size + 5) = none := by
    rw [updT_none L H1 _ fun p hp e => ?_]
    · exact I1.hok.fresh (Nat.le_add_right _ _)
    · obtain ⟨j, ej, _⟩ := hmem p hp
      have := pr.rng p.1 (List.mem_of_getElem? ej)
      exact absurd e (Nat.ne_of_gt this)
  rw [eH] at If
  have zz : (zipI xs ys).length = ts.length := by rw [zipI_len, rx.length, ry.length, e3, zl1, zl2]
  have tq : TupS X.K (updT H1 L) (upd (updT H1 L) (s1.heap.objs.size + 5) (.lst (ts.map V.ref))) := .new hpn
  have ro : RepO X.K (upd (updT H1 L) (s1.heap.objs.size + 5) (.lst (ts.map V.ref))) (s1.heap.objs.size + 5) (.lst (zipI xs ys)) := by
    refine ⟨_, upd_same, reps_of (by rw [List.length_map]; exact zz) fun j d v ed ev => ?_⟩
    rw [List.getElem?_map] at ev
    cases et : ts[j]? with
    | none => rw [et] at ev; cases ev
    | some t =>
    rw [et] at ev
    cases ev
    obtain ⟨u, v, x', y', g1, g2, _⟩ := at_ j t et
    obtain ⟨d1, c1, c2⟩ := rx.get' g1
    obtain ⟨d2, c3, c4⟩ := ry.get' g2
    rw [zipI_get c1 c3] at ed
    cases ed
    have := updT_at L H1 ndL _ (hin j t et)
    rw [gd g1, gd g2] at this
    unfold Rep
    exact ⟨t, _, rfl, tq _ _ (.of this), .cons ((c2.stay tt2).stay tq) (.cons ((c4.stay tt2).stay tq) .nil)⟩
  have hM2 := rm2.none hpn
  refine ⟨.ref (s1.heap.objs.size + 5), _, If, rfl, ?_⟩
  have fq := ((st.fr.next f1).next ff2).new (u := .lst (ts.map V.ref)) hpn (.lst (zipI xs ys))
  exact g _ _ _ _ (q1 _ hM2) ((t1.trans tt2).trans tq) ((f1.trans ff2).trans fq) (rm2.new hpn ro) rfl
end
end DL

set_option Elab.async false
set_option linter.all false
set_option maxRecDepth 100000
set_option maxHeartbeats 8000000
/-! DLzc: list(d.items()) of a dict whose keys are tuples. -/
namespace DL
open PySem PySem.Spec PyProof.Rows L2
variable {K : PySem.W.Frag}
theorem TPs.get {H : Hp} : ∀ {kvs : List (List Key × D)} {xs : List (List Key × Addr × V)}, TPs K H kvs xs → ∀ {i : Nat} {p : List Key × D}, kvs[i]? = some p → ∃ b v, xs[i]? = some (p.1, b, v) ∧ SqT K H b (p.1.map kV) ∧ Rep K H p.2 v
  | [], _, _, _, _, h => nomatch h
  | (k, d) :: ds, xs, t, 0, p, h => by
    cases h
    unfold TPs at t
    obtain ⟨b, v, r, rfl, h1, h2, _⟩ := t
    exact ⟨b, v, rfl, h1, h2⟩
  | (k, d) :: ds, xs, t, i + 1, p, h => by
    unfold TPs at t
    obtain ⟨b, v, r, rfl, _, _, h3⟩ := t
    exact TPs.get h3 (i := i) (by simpa using h)
theorem TPs.len {H : Hp} : ∀ {kvs : List (List Key × D)} {xs : List (List Key × Addr × V)}, TPs K H kvs xs → kvs.length = xs.length
  | [], _, t => by unfold TPs at t; subst t; rfl
  | (k, d) :: ds, xs, t => by
    unfold TPs at t
    obtain ⟨b, v, r, rfl, _, _, h3⟩ := t
    rw [List.length_cons, List.length_cons, TPs.len h3]
theorem rep_keyT {H : Hp} {b : Addr} : ∀ {k : List Key}, SqT K H b (k.map kV) → Rep K H (keyT k) (.ref b) := fun {k} h => by
  have : ∀ k : List Key, ∃ ds, keyT k = .tup ds ∧ Reps K H ds (k.map kV) := fun k => by
    induction k with
    | nil => exact ⟨[], rfl, .nil⟩
    | cons x k ih =>
      obtain ⟨ds, e, r⟩ := ih
      unfold keyT at e
      injection e with e
      refine ⟨_, rfl, ?_⟩
      rw [List.map_cons, List.map_cons, e]
      cases x with
      | inl i => exact .cons rfl r
      | inr y => exact .cons rfl r
  obtain ⟨ds, e, r⟩ := this k
  rw [e]
  unfold Rep
  exact ⟨b, _, rfl, h, r⟩
section
variable {X : Cx} {a : Expr} {wa : WE}
def itemsD (kvs : List (List Key × D)) : List D := kvs.map fun p => .tup [keyT p.1, p.2]
def wItemsL (wa : WE) : WE := fun ρ M Q => wa ρ M fun d M1 => ∃ (P : Program) (w : World) (p : Addr) (kvs : List (List Key × D)), d = .ref p ∧ M1 p = some (.dX P w kvs) ∧ kvs.length ≤ 1000000 ∧ ∀ q, M1 q = none → Q (.ref q) (up M1 q (.lst (itemsD kvs)))
theorem pd_itemsL {p1 apos cpos pos : Pos} (hc : X.calm = true) (hg : Gl X "list") (hm : X.mg "list" = none) (ha : PE X a (tD X.K wa)) (hb : plainBase a = true) (hline : (apos.endLine == cpos.line) = true) :
    PE X (.Call (.Name "list" p1) [.Call (.Attribute a "items" apos) [] [] cpos] [] pos) (tD X.K (wItemsL wa)) := by
  refine ⟨fun pins s σ H Q Iv hh => ?_⟩
  obtain ⟨ρ, M, Fr, Q0, st, q, g⟩ := hh
  refine wpAny_Call_Name_kw (ld_blt Iv hg hm PyProof.Rows.boot_list (PyProof.Rows.callWith_type1 (rest := []) ?_))
  refine Calls.spliced_cons (wpAny_Call_method (T := "dict") (id := "dict.items") (base_plain hb _ _ _) rfl hline F.plainAttrs_dict F.slot_dict_items F.type_dict_items (thn (ha.run pins s σ H (fun v H1 => ∃ P w x kvs xs M1, v = .ref x ∧ M1 x = some (.dX P w kvs) ∧ H1 x = some (.ext (TD P w x xs)) ∧ TPs X.K H1 kvs xs ∧ kvs.length ≤ 1000000 ∧ RepM X.K H1 M1 ∧ TupS X.K H H1 ∧ Frm Fr H H1 M1 ∧ ∀ q, M1 q = none → Q0 (.ref q) (up M1 q (.lst (itemsD kvs)))) Iv ⟨ρ, M, Fr, _, st, q, fun d M1 v H1 q1 t1 f1 r1 pp => ?_⟩) fun u s1 ⟨v, H1, I1, rv, q1⟩ => ?_))
  · obtain ⟨P, w, x, kvs, rfl, e1, z1, q1⟩ := q1
    cases pp
    obtain ⟨xs, w1, w2⟩ := r1 _ _ e1
    exact ⟨P, w, x, kvs, xs, M1, rfl, e1, w1, w2, z1, r1, t1, f1, q1⟩
  obtain ⟨P, w, d, kvs, xs, M1, rfl, eM, eH, tp, zk, rm, t1, f1, q1⟩ := q1
  obtain rfl : u = Value.ref d := rv
  obtain ⟨⟨hsm, ys, fy, o, es, ep, h1, h2, h3, h4, h5⟩, _, _⟩ := (show ObjOk X.prog X.w H1 s1.heap d (.ext (TD P w d xs)) from I1.hok d _ eH)
  have raw : s1.heap.DictRaw d es ep := ⟨o, h1, h2, h3⟩
  obtain ⟨_, fl, _⟩ := fit_keys fy
  have l0 := tp.len
  have l1 : es.size = ys.length := size_of_entries h4
  refine ⟨raw.typeIs, fun b eb => by cases eb; exact ⟨o, h1, h2.2.1⟩, ?_⟩
  show wpAny _ _ (callWith cpos (.builtin "dict.items") [.ref d] [] []) _ X.xe s1
  refine method_meetsIn F.slot_dict_items F.entry_dict_items rfl (PySem.evalArgs_none ⟨rfl, raw.typeIs, F.args_dict_items_1 _, _, meets_dict_items_raw d hsm, ⟨es, ep, raw⟩, ?_⟩)
  refine Calls.spliced_nil ?_
  have I2 : Inv X pins σ H1 { s1 with heap := s1.heap.push { cls := .type "dict_items", data := .fields #[.ref d] } } := I1.kept (t' := s1.toks) fun b ob z => Heap.get?_push_of_some _ z
  generalize hs2 : ({ s1 with heap := s1.heap.push { cls := .type "dict_items", data := .fields #[.ref d] } } : Shared) = s2 at I2
  have hv2 : s2.heap.IsItemsView s1.heap.objs.size d := by rw [← hs2]; exact ⟨_, Heap.get?_push_size _ rfl, rfl, rfl⟩
  have raw2 : s2.heap.DictRaw d es ep := by rw [← hs2]; exact raw.at fun o e => Heap.get?_push_of_some _ e
  refine PySem.W.dil_call (es := es) (ep := ep) (I2.ok.hd hc) hv2 raw2 (by rw [sizeLine_eq]; omega) fun h' tk acc c ts hk hS hl hG hacc => ?_
  -- what is new
  have pairs : ∀ j t, ts[j]? = some t → ∃ (k : List Key) (dd : D) (b : Addr) (v : V) (u : Value), kvs[j]? = some (k, dd) ∧ xs[j]? = some (k, b, v) ∧ SqT X.K H1 b (k.map kV) ∧ Rep X.K H1 dd v ∧ RelV v u ∧ h'.get? t = some { cls := .type "tuple", data := .seq #[.ref b, u] } := fun j t e => by
    obtain ⟨hj, e1⟩ := hG.pairs j t e
    have hjk : j < kvs.length := by omega
    obtain ⟨b, v, x1, x2, x3⟩ := tp.get (List.getElem?_eq_getElem hjk)
    have hjy : j < ys.length := by omega
    obtain ⟨y, y1, y2⟩ := L2.paired_get fy x1
    obtain ⟨y3, y4, y5⟩ := y2
    have qe := entry_at h4 j
    rw [y1] at qe
    have qe2 : es[j] = entryOfKey (tupleKind (mixKind P w)) y := by
      rw [Array.getElem?_eq_getElem hj] at qe
      exact Option.some.inj qe
    refine ⟨_, _, b, v, y.2.2, List.getElem?_eq_getElem hjk, x1, x2, x3, y5, ?_⟩
    rw [e1, qe2]
    show some ({ cls := .type "tuple", data := .seq #[.ref y.2.1, y.2.2] } : Obj) = some { cls := .type "tuple", data := .seq #[.ref b, y.2.2] }
    rw [show b = y.2.1 from y4]
  have lt : ts.length = kvs.length := by omega
  have nd : ts.Nodup := hG.rise.imp fun h => Nat.ne_of_lt h
  generalize hL : ts.zipIdx.map (fun p => (p.1, HO.tup [V.ref ((xs.getD p.2 ([], 0, .non)).2.1), (xs.getD p.2 ([], 0, .non)).2.2])) = L
  have hL1 : L.map (·.1) = ts := by
    rw [← hL, List.map_map]
    show ts.zipIdx.map Prod.fst = ts
    simp
  have hmem : ∀ p ∈ L, ∃ j, ts[j]? = some p.1 ∧ p.2 = HO.tup [V.ref ((xs.getD j ([], 0, .non)).2.1), (xs.getD j ([], 0, .non)).2.2] := fun p hp => by
    rw [← hL] at hp
    obtain ⟨z, hz, rfl⟩ := List.mem_map.mp hp
    obtain ⟨t, j⟩ := z
    exact ⟨j, List.mem_zipIdx_iff_getElem?.mp hz, rfl⟩
  have hin : ∀ j t, ts[j]? = some t → (t, HO.tup [V.ref ((xs.getD j ([], 0, .non)).2.1), (xs.getD j ([], 0, .non)).2.2]) ∈ L := fun j t e => by
    rw [← hL]
    exact List.mem_map.mpr ⟨(t, j), List.mem_zipIdx_iff_getElem?.mpr e, rfl⟩
  have gd : ∀ {j : Nat} {z : List Key × Addr × V}, xs[j]? = some z → xs.getD j ([], 0, .non) = z := fun e => by rw [List.getD_eq_getElem?_getD, e]; rfl
  have above : ∀ t ∈ ts, s2.heap.objs.size < t := fun t ht => hG.above t ht
  have nd2 : ((L ++ [(s2.heap.objs.size, HO.lst (ts.map V.ref))]).map (·.1)).Nodup := by
    rw [List.map_append, hL1]
    refine List.nodup_append.mpr ⟨nd, by simp, fun u hu w' hw e => ?_⟩
    have := above u hu
    rw [List.map_cons, List.map_nil, List.mem_singleton] at hw
    subst hw
    exact absurd e (Nat.ne_of_gt this)
  have far : ∀ p ∈ L ++ [(s2.heap.objs.size, HO.lst (ts.map V.ref))], s2.heap.objs.size ≤ p.1 := fun p hp => by
    rcases List.mem_append.mp hp with h | h
    · obtain ⟨j, ej, _⟩ := hmem p h
      exact Nat.le_of_lt (above p.1 (List.mem_of_getElem? ej))
    · rw [List.mem_singleton.mp h]
      exact Nat.le_refl _
  have Hn : ∀ p ∈ L ++ [(s2.heap.objs.size, HO.lst (ts.map V.ref))], H1 p.1 = none := fun p hp => I2.hok.fresh (far p hp)
  have eH2 : updT H1 (L ++ [(s2.heap.objs.size, HO.lst (ts.map V.ref))]) = upd (updT H1 L) s2.heap.objs.size (.lst (ts.map V.ref)) := by
    unfold updT
    rw [List.foldl_append]
    rfl
  have If : Inv X pins σ (updT H1 (L ++ [(s2.heap.objs.size, HO.lst (ts.map V.ref))])) { s2 with heap := h', toks := tk } := by
    refine inv_many I2 hk _ far fun p hp => ?_
    rcases List.mem_append.mp hp with h | h
    · obtain ⟨j, ej, e2⟩ := hmem p h
      obtain ⟨k, dd, b, v, u, g0, g1, g2, g3, g4, g5⟩ := pairs j _ ej
      rw [e2, gd g1]
      exact ⟨by show 2 ≤ sizeLine; decide, [.ref b, u], .cons rfl (.cons g4 .nil), ⟨_, g5, rfl, _, rfl⟩⟩
    · rw [List.mem_singleton.mp h]
      refine ⟨by rw [List.length_map, lt, sizeLine_eq]; omega, ts.map Value.ref, c, vals_new ts, ?_⟩
      have ea : acc = (ts.map Value.ref).toArray := by rw [← hacc]
      rw [← ea]
      exact hS
  have ndL : (L.map (·.1)).Nodup := by rw [hL1]; exact nd
  have HnL : ∀ p ∈ L, H1 p.1 = none := fun p hp => Hn p (List.mem_append_left _ hp)
  obtain ⟨rm2, tt2⟩ := repm_many (M := M1) L H1 ndL HnL rm
  have ff2 := frm_many (M := M1) L H1 ndL HnL (st.fr.next f1)
  have hpn : updT H1 L s2.heap.objs.size = none := by
    rw [updT_none L H1 _ fun p hp e => ?_]
    · exact I2.hok.fresh (Nat.le_refl _)
    · obtain ⟨j, ej, _⟩ := hmem p hp
      exact absurd e (Nat.ne_of_gt (above p.1 (List.mem_of_getElem? ej)))
  rw [eH2] at If
  have tq : TupS X.K (updT H1 L) (upd (updT H1 L) s2.heap.objs.size (.lst (ts.map V.ref))) := .new hpn
  have ro : RepO X.K (upd (updT H1 L) s2.heap.objs.size (.lst (ts.map V.ref))) s2.heap.objs.size (.lst (itemsD kvs)) := by
    refine ⟨_, upd_same, reps_of (by unfold itemsD; rw [List.length_map, List.length_map]; omega) fun j dj v ed ev => ?_⟩
    rw [List.getElem?_map] at ev
    cases et : ts[j]? with
    | none => rw [et] at ev; cases ev
    | some t =>
    rw [et] at ev
    cases ev
    obtain ⟨k, dd, b, v, u, g0, g1, g2, g3, _⟩ := pairs j t et
    unfold itemsD at ed
    rw [List.getElem?_map, g0] at ed
    cases ed
    have := updT_at L H1 ndL _ (hin j t et)
    rw [gd g1] at this
    have rk := rep_keyT g2
    unfold Rep
    exact ⟨t, _, rfl, tq _ _ (.of this), .cons ((rk.stay tt2).stay tq) (.cons ((g3.stay tt2).stay tq) .nil)⟩
  have hM2 := rm2.none hpn
  have fq := ((st.fr.next f1).next ff2).new (u := .lst (ts.map V.ref)) hpn (.lst (itemsD kvs))
  rw [← hs2] at If ro hpn hM2 fq tq ⊢
  refine ⟨.ref _, _, If, rfl, ?_⟩
  exact g _ _ _ _ (q1 _ hM2) ((t1.trans tt2).trans tq) ((f1.trans ff2).trans fq) (rm2.new hpn ro) rfl
end
end DL

set_option Elab.async false
set_option linter.all false
set_option maxRecDepth 100000
set_option maxHeartbeats 8000000
/-! DLzd: list(zip(a tuple, a tuple)). -/
namespace DL
open PySem PySem.Spec PyProof.Rows L2
abbrev mix1T (h : Heap) (l : Addr) : Heap := h.push { cls := .type "tuple_iterator", data := .fields #[Value.ref l, Value.int 0 0] }
abbrev mix2T (h : Heap) (l t : Addr) : Heap := (mix1T h l).push { cls := .type "tuple_iterator", data := .fields #[Value.ref t, Value.int 0 0] }
abbrev mix3T (h : Heap) (l t : Addr) : Heap := (mix2T h l t).push { cls := .type "tuple", data := .seq #[Value.ref h.objs.size, Value.ref (mix1T h l).objs.size] }
abbrev mix4T (h : Heap) (l t : Addr) : Heap := (mix3T h l t).push { cls := .type "tuple", data := .seq #[Value.none, Value.none] }
abbrev mix5T (h : Heap) (l t : Addr) : Heap := (mix4T h l t).push { cls := .type "zip", data := .fields #[Value.none, Value.bool false, Value.bool false, Value.ref (mix2T h l t).objs.size, Value.ref (mix3T h l t).objs.size] }
theorem mix_newT (l t : Addr) (us vs : Array Value) :
    Meets (Builtin.«zip.__new__» ⟨[.type "zip", .ref l, .ref t], []⟩) (fun _ R s => (s.heap.IsTuple l us ∧ s.heap.IsTuple t vs) ∧
      R (.ok (.ret (.ref (mix4T s.heap l t).objs.size))) { s with heap := mix5T s.heap l t }) :=
  Meets.of_wp fun prog w A R s hh => by
    obtain ⟨hq, gq, dq, tq, oq⟩ := s
    obtain ⟨⟨hl, ht⟩, hh⟩ := hh
    have sz := sub_zip
    have h1 : Heap.IsTuple (Shared.heap ⟨hq, gq, dq, tq, oq⟩) l us := hl
    have h2 : Heap.IsTuple (Shared.heap ⟨mix1T hq l, gq, dq, tq, oq⟩) t vs := Heap.IsTuple.push ht _
    wp_walk using wpAny_pyIter_tuple h1, wpAny_pyIter_tuple h2
    exact ⟨_, rfl, hh⟩
/-- the state of such a zip, its cells from I on -/
def tnMT (I a b : Addr) (i : Nat) (h : Heap) : Prop := (IsZip h (I + 4) (I + 2) (I + 3) .none ∧ IsTupOf2 h (I + 2) (.ref I) (.ref (I + 1))) ∧ (∃ p q, IsTupOf2 h (I + 3) p q) ∧ h.IsTupleIter I a i ∧ h.IsTupleIter (I + 1) b i
theorem call_mixT {prog : Program} {w : World} {A : Around} {E : Value → Shared → Prop} {s : Shared} {l t : Addr} {us vs : Array Value} {Q : Value → Shared → Prop} (hl : s.heap.IsTuple l us) (ht : s.heap.IsTuple t vs)
    (k : ∀ h', tnMT s.heap.objs.size l t 0 h' → (∀ c o, s.heap.get? c = some o → h'.get? c = some o) → h'.objs.size = s.heap.objs.size + 5 → Q (.ref (s.heap.objs.size + 4)) { s with heap := h' }) :
    wpAny (model prog w) A (call (.type "zip") [.ref l, .ref t]) Q E s := by
  refine callType_new F.called_zip (by decide) (F.typeCall_zip_2 _ _) (F.newCall_zip_2 _ _) (fun obj => F.args_object_init_3 obj _ _) F.entry_zip_new (mix_newT l t us vs) ⟨⟨hl, ht⟩, ?_⟩
  have s1 : (mix1T s.heap l).objs.size = s.heap.objs.size + 1 := Heap.size_push ..
  have s2 : (mix2T s.heap l t).objs.size = s.heap.objs.size + 2 := by rw [Heap.size_push, s1]
  have s3 : (mix3T s.heap l t).objs.size = s.heap.objs.size + 3 := by rw [Heap.size_push, s2]
  have s4 : (mix4T s.heap l t).objs.size = s.heap.objs.size + 4 := by rw [Heap.size_push, s3]
  have c5 : (mix5T s.heap l t).get? (mix4T s.heap l t).objs.size = some _ := Heap.get?_push_size _ rfl
  have c4 : (mix5T s.heap l t).get? (mix3T s.heap l t).objs.size = some _ := Heap.get?_push_of_some _ (Heap.get?_push_size _ rfl)
  have c3 : (mix5T s.heap l t).get? (mix2T s.heap l t).objs.size = some _ := Heap.get?_push_of_some _ (Heap.get?_push_of_some _ (Heap.get?_push_size _ rfl))
  have c2 : (mix5T s.heap l t).get? (mix1T s.heap l).objs.size = some _ := Heap.get?_push_of_some _ (Heap.get?_push_of_some _ (Heap.get?_push_of_some _ (Heap.get?_push_size _ rfl)))
  have c1 : (mix5T s.heap l t).get? s.heap.objs.size = some _ := Heap.get?_push_of_some _ (Heap.get?_push_of_some _ (Heap.get?_push_of_some _ (Heap.get?_push_of_some _ (Heap.get?_push_size _ rfl))))
  show _ ∧ _
  rw [s2, s3, s4] at c5
  rw [s1, s2] at c3
  rw [s3] at c4
  rw [s1] at c2
  rw [s4]
  exact ⟨⟨_, c5, rfl⟩, k _ ⟨⟨c5, c3⟩, ⟨_, _, c4⟩, ⟨_, c1, rfl, rfl⟩, ⟨_, c2, rfl, rfl⟩⟩ (fun c o e => Heap.get?_push_of_some _ (Heap.get?_push_of_some _ (Heap.get?_push_of_some _ (Heap.get?_push_of_some _ (Heap.get?_push_of_some _ e))))) (by rw [Heap.size_push, s4])⟩
/-! ### a zip that is walked while all its pairs are held -/
def ZStT (I a b : Addr) (i : Nat) (h : Heap) : Prop := (i = 0 ∧ tnMT I a b 0 h) ∨ (0 < i ∧ ∃ (T : Addr) (f : Bool) (oT : Obj), (oT.cls = .type "tuple" ∧ T ∉ fpM I) ∧ h.get? T = some oT ∧ (IsZipHeld h (I + 4) (I + 2) (I + 3) T f ∧ IsTupOf2 h (I + 2) (.ref I) (.ref (I + 1))) ∧ h.IsTupleIter I a i ∧ h.IsTupleIter (I + 1) b i)
theorem ZStT.stay {I a b : Addr} {i : Nat} {h h' : Heap} (z : ZStT I a b i h) (k : ∀ c o, (c ∈ fpM I ∨ o.cls = .type "tuple") → h.get? c = some o → h'.get? c = some o) : ZStT I a b i h' := by
  rcases z with ⟨e, ⟨t1, t2⟩, ⟨p, q, t3⟩, t4, t5⟩ | ⟨e, T, f, oT, ⟨o1, o2⟩, t0, ⟨t1, t2⟩, t4, t5⟩
  · exact .inl ⟨e, ⟨k _ _ (.inl (by simp)) t1, k _ _ (.inl (by simp)) t2⟩, ⟨p, q, k _ _ (.inl (by simp)) t3⟩, t4.at fun o z => k _ _ (.inl (by simp)) z, t5.at fun o z => k _ _ (.inl (by simp)) z⟩
  · exact .inr ⟨e, T, f, oT, ⟨o1, o2⟩, k _ _ (.inr o1) t0, ⟨k _ _ (.inl (by simp)) t1, k _ _ (.inl (by simp)) t2⟩, t4.at fun o z => k _ _ (.inl (by simp)) z, t5.at fun o z => k _ _ (.inl (by simp)) z⟩
section
variable {prog : Program} {w : World} {A : Around} {E : Value → Shared → Prop} {s : Shared} {I a b i : Nat} {us vs : Array Value}
theorem zs_nextT {x y : Value} {Q : Option Value → Shared → Prop} (hd : A.in1.handled = none) (ha : a < I) (hb : b < I) (z : ZStT I a b i s.heap) (hl : s.heap.IsTuple a us) (ht : s.heap.IsTuple b vs) (hx : us[i]? = some x) (hy : vs[i]? = some y)
    (hQ : ∀ h' tk, ZStT I a b (i + 1) h' → IsTupOf2 h' s.heap.objs.size x y → (∀ c o, c ∉ fpM I → s.heap.get? c = some o → h'.get? c = some o) → Q (some (.ref s.heap.objs.size)) { s with heap := h', toks := tk }) :
    wpAny (model prog w) A (pyNext (.ref (I + 4))) Q E s := by
  have S := sepM ha hb
  have b1 : i < us.size := (Array.getElem?_eq_some_iff.mp hx).1
  have b2 : i < vs.size := (Array.getElem?_eq_some_iff.mp hy).1
  have D1 := Draws.tuple (prog := prog) (w := w) hd I a (Nat.ne_of_lt ha) us
  have D2 := Draws.tuple (prog := prog) (w := w) hd (I + 1) b (Nat.ne_of_lt (Nat.lt_succ_of_lt hb)) vs
  have kp : ∀ {h' : Heap}, (∀ c o, c ≠ I + 4 → c ≠ I → c ≠ I + 1 → s.heap.get? c = some o → h'.get? c = some o) → ∀ c o, c ∉ fpM I → s.heap.get? c = some o → h'.get? c = some o := fun {h'} k c o hc e => by
    simp only [fpM, List.mem_cons, List.not_mem_nil, or_false, not_or] at hc
    exact k c o hc.1 hc.2.2.2.1 hc.2.2.2.2 e
  have apart : s.heap.objs.size ∉ fpM I := fun h => by
    have zl : I + 4 < s.heap.objs.size := by
      rcases z with ⟨_, ⟨t1, _⟩, _⟩ | ⟨_, _, _, _, _, _, ⟨t1, _⟩, _⟩ <;> exact Heap.lt_size t1
    simp only [fpM, List.mem_cons, List.not_mem_nil, or_false] at h
    omega
  have zx : ∀ {x1}, us[i]? = some x1 → x1 = x := fun {x1} e => Option.some.inj (e.symm.trans hx)
  have zy : ∀ {y1}, vs[i]? = some y1 → y1 = y := fun {y1} e => Option.some.inj (e.symm.trans hy)
  rcases z with ⟨rfl, ⟨t1, t2⟩, ⟨p, q, t3⟩, t4, t5⟩ | ⟨e, T, f, oT, ⟨o1, o2⟩, t0, ⟨t1, t2⟩, t4, t5⟩
  · refine wpAny_pyNext_zipD2_item (i := 0) S D1 D2 t1 t2 t3 ⟨t4, hl⟩ ⟨t5, ht⟩ b1 b2 fun x1 x2 h' tk y1 y2 z1 hTO d1 d2 hN hsz hk => ?_
    obtain rfl := zx y1
    obtain rfl := zy y2
    refine hQ h' tk (.inr ⟨Nat.succ_pos 0, s.heap.objs.size, false, _, ⟨rfl, apart⟩, hN, ⟨z1, ?_⟩, d1.1, d2.1⟩) hN ?_
    · exact hk _ _ S.TIz S.TITO S.TIi1 S.TIi2 t2
    · intro c o hc e
      simp only [fpM, List.mem_cons, List.not_mem_nil, or_false, not_or] at hc
      exact hk c o hc.1 hc.2.2.1 hc.2.2.2.1 hc.2.2.2.2 e
  · refine held_item (i := i) S D1 D2 t1 t0 t2 ⟨t4, hl⟩ ⟨t5, ht⟩ b1 b2 fun x1 x2 h' tk y1 y2 z1 d1 d2 hN hk => ?_
    obtain rfl := zx y1
    obtain rfl := zy y2
    have kk := kp hk
    refine hQ h' tk (.inr ⟨Nat.succ_pos i, T, true, oT, ⟨o1, o2⟩, kk _ _ o2 t0, ⟨z1, ?_⟩, d1.1, d2.1⟩) hN kk
    exact hk _ _ S.TIz S.TIi1 S.TIi2 t2
theorem zs_endT {Q : Option Value → Shared → Prop} (hd : A.in1.handled = none) (ha : a < I) (hb : b < I) (z : ZStT I a b i s.heap) (hl : s.heap.IsTuple a us) (ht : s.heap.IsTuple b vs) (b1 : i ≤ us.size) (b2 : i ≤ vs.size) (hend : i = us.size ∨ i = vs.size)
    (hQ : ∀ h' tk, (∀ c o, c ∉ fpM I → s.heap.get? c = some o → h'.get? c = some o) → Q none { s with heap := h', toks := tk }) :
    wpAny (model prog w) A (pyNext (.ref (I + 4))) Q E s := by
  have S := sepM ha hb
  have D1 := Draws.tuple (prog := prog) (w := w) hd I a (Nat.ne_of_lt ha) us
  have D2 := Draws.tuple (prog := prog) (w := w) hd (I + 1) b (Nat.ne_of_lt (Nat.lt_succ_of_lt hb)) vs
  rcases z with ⟨rfl, ⟨t1, t2⟩, ⟨p, q, t3⟩, t4, t5⟩ | ⟨e, T, f, oT, ⟨o1, o2⟩, t0, ⟨t1, t2⟩, t4, t5⟩
  · refine wpAny_pyNext_zipD2_end (i := 0) S D1 D2 t1 t2 t3 ⟨t4, hl⟩ ⟨t5, ht⟩ b1 b2 hend fun h' tk hk => hQ h' tk fun c o hc e => ?_
    simp only [fpM, List.mem_cons, List.not_mem_nil, or_false, not_or] at hc
    exact hk c o hc.1 hc.2.2.1 hc.2.2.2.1 hc.2.2.2.2 e
  · refine held_end (i := i) S D1 D2 t1 t0 t2 ⟨t4, hl⟩ ⟨t5, ht⟩ b1 b2 hend fun h' tk hk => hQ h' tk fun c o hc e => ?_
    simp only [fpM, List.mem_cons, List.not_mem_nil, or_false, not_or] at hc
    exact hk c o hc.1 hc.2.2.2.1 hc.2.2.2.2 e
/-- list.extend's loop over such a zip -/
theorem zip_loopT {R : Result → Shared → Prop} (hd : A.in1.in1.handled = none) (ha : a < I) (hb : b < I) {n : Nat} (hn : n = min us.size vs.size) (zn : n ≤ sizeLine) (res : Value) {h0 : Heap} (low : ∀ c o, h0.get? c = some o → c < I) (hl0 : h0.IsTuple a us) (ht0 : h0.IsTuple b vs) :
    ∀ (k i : Nat) (s : Shared) (acc : Array Value) (cc : Nat) (ts : List Nat), n - i = k → i ≤ n → ZStT I a b i s.heap → s.heap.get? (I + 5) = some (lstO acc cc) → acc.toList = ts.map Value.ref → ts.length = i → Prs I us vs s.heap ts → (∀ c o, h0.get? c = some o → s.heap.get? c = some o) →
    (∀ h' tk acc' cc' ts', h'.get? (I + 5) = some (lstO acc' cc') → acc'.toList = ts'.map Value.ref → ts'.length = n → Prs I us vs h' ts' → (∀ c o, h0.get? c = some o → h'.get? c = some o) → R (.ok (.ret res)) { s with heap := h', toks := tk }) →
    codeAny (model prog w) A (.builtin "list.extend.loop" ⟨[.ref (I + 5), .ref (I + 4), res], []⟩) R s := by
  have hS : (I + 5 : Nat) ∉ fpM I := fun h => by
    simp only [fpM, List.mem_cons, List.not_mem_nil, or_false] at h
    omega
  have hi : ∀ {c : Nat}, I + 5 < c → c ∉ fpM I := fun {c} hc h => by
    simp only [fpM, List.mem_cons, List.not_mem_nil, or_false] at h
    omega
  have lo : ∀ {c : Nat}, c < I → c ∉ fpM I ∧ c ≠ I + 5 := fun {c} hc => ⟨fun h => by
    simp only [fpM, List.mem_cons, List.not_mem_nil, or_false] at h
    omega, by omega⟩
  intro k
  induction k with
  | zero =>
    intro i s acc cc ts hk hi' z hL hacc hlen pr old fin
    have e : i = n := by omega
    obtain ⟨ol, e1, r1⟩ := hl0
    obtain ⟨ot, e2, r2⟩ := ht0
    refine codeAny_builtin F.entry_extend_loop ?_
    rw [Around.under_plainId F.plain_extend_loop _]
    show wpAny _ A.in1 (pyNext (.ref (I + 4)) >>= _) _ _ s
    refine wpAny_bind (zs_endT hd ha hb z ⟨ol, old _ _ e1, r1⟩ ⟨ot, old _ _ e2, r2⟩ (by omega) (by omega) (by omega) fun h' tk hk' => wpAny_pure ?_)
    have pr' := pr.stay (h' := h') fun c o hc e => hk' c o (hi hc) e
    exact fin h' tk acc cc ts (hk' _ _ hS hL) hacc (by omega) pr' fun c o e => hk' c o (lo (low c o e)).1 (old c o e)
  | succ k ih =>
    intro i s acc cc ts hk hi' z hL hacc hlen pr old fin
    have b1 : i < us.size := by omega
    have b2 : i < vs.size := by omega
    have ol : s.heap.IsTuple a us := by obtain ⟨ol, e1, r1⟩ := hl0; exact ⟨ol, old _ _ e1, r1⟩
    have ot : s.heap.IsTuple b vs := by obtain ⟨ot, e2, r2⟩ := ht0; exact ⟨ot, old _ _ e2, r2⟩
    refine codeAny_builtin F.entry_extend_loop ?_
    rw [Around.under_plainId F.plain_extend_loop _]
    show wpAny _ A.in1 (pyNext (.ref (I + 4)) >>= _) _ _ s
    refine wpAny_bind (zs_nextT hd ha hb z ol ot (Array.getElem?_eq_getElem b1) (Array.getElem?_eq_getElem b2) fun h1 tk z1 hN hk1 => ?_)
    have hL1 := hk1 _ _ hS hL
    have za : acc.size = i := by rw [← Array.length_toList, hacc, List.length_map, hlen]
    show wpAny _ A.in1 (updateSeq (I + 5) (·.push (.ref s.heap.objs.size)) >>= _) _ _ _
    refine wpAny_bind (wpAny_updateSeq hL1 rfl (wpAny_pure ⟨plainId_quiet F.plain_extend_loop _, ?_⟩) (by rw [za]; omega) (by show (acc.push _).size ≤ sizeLine + 1; rw [Array.size_push, za]; omega))
    have sb := Heap.SameBut.update h1 (I + 5) (Obj.mapSeq (·.push (Value.ref s.heap.objs.size)))
    have hL2 := Heap.get?_update_self (Obj.mapSeq (·.push (Value.ref s.heap.objs.size))) hL1 rfl
    generalize h1.update (I + 5) (Obj.mapSeq (·.push (Value.ref s.heap.objs.size))) = h2 at sb hL2 ⊢
    have k12 : ∀ c o, c ≠ I + 5 → h1.get? c = some o → h2.get? c = some o := fun c o hc e => sb.extBut _ _ hc e
    have h5 : I + 5 < s.heap.objs.size := Heap.lt_size hL
    have pr2 : Prs I us vs h2 (ts ++ [s.heap.objs.size]) := pr.more (fun c o hc e => k12 c o (by omega) (hk1 c o (hi hc) e)) (Nat.le_refl _) h5 (by rw [hlen]; exact Array.getElem?_eq_getElem b1) (by rw [hlen]; exact Array.getElem?_eq_getElem b2) (k12 _ _ (by omega) hN)
    refine ih (i + 1) _ (acc.push (.ref s.heap.objs.size)) _ (ts ++ [s.heap.objs.size]) (by omega) (by omega) (z1.stay fun c o hc e => k12 c o (fun q => ?_) e) hL2 (by rw [Array.toList_push, hacc, List.map_append]; rfl) (by rw [List.length_append, hlen]; rfl) pr2 (fun c o e => k12 c o (lo (low c o e)).2 (hk1 c o (lo (low c o e)).1 (old c o e))) fin
    subst q
    rcases hc with q | q
    · exact hS q
    · rw [hL1] at e
      cases e
      have q' : Value.type "list" = Value.type "tuple" := q
      injection q' with q''
      exact absurd q'' (by decide)
/-- list.extend from such a zip -/
theorem zip_extT {R : Result → Shared → Prop} (hd : A.in1.in1.handled = none) (ha : a < I) (hb : b < I) {n cz : Nat} (hn : n = min us.size vs.size) (zn : n ≤ sizeLine) (res : Value) {h0 : Heap} (low : ∀ c o, h0.get? c = some o → c < I) (hl0 : h0.IsTuple a us) (ht0 : h0.IsTuple b vs)
    (tn : tnMT I a b 0 s.heap) (hL : s.heap.get? (I + 5) = some (lstO #[] cz)) (old : ∀ c o, h0.get? c = some o → s.heap.get? c = some o)
    (fin : ∀ h' tk acc' cc' ts', h'.get? (I + 5) = some (lstO acc' cc') → acc'.toList = ts'.map Value.ref → ts'.length = n → Prs I us vs h' ts' → (∀ c o, h0.get? c = some o → h'.get? c = some o) → R (.ok (.ret res)) { s with heap := h', toks := tk }) :
    wpAny (model prog w) A.in1 (Builtin.List.listExtendWith (.ref (I + 5)) (.ref (I + 4)) res)
      (fun fi sx => match fi with | .done fl => R (.ok fl) sx | .again co => co.quiet = true ∧ codeAny (model prog w) A co R sx) (fun ex sx => R (.error ex) sx) s := by
  have zt : s.TypeIs (.ref (I + 4)) "zip" := ⟨_, tn.1.1, rfl⟩
  have apart : ¬ ((I + 5 : Nat) = I + 4) := by omega
  unfold Builtin.List.listExtendWith
  refine wpAny_bind (wpAny_typeOf zt ?_)
  have q1 : Builtin.List.listSameRef (.ref (I + 5)) (.ref (I + 4)) = false := by simp [Builtin.List.listSameRef]
  have q2 : (Value.type "zip" == Value.type "list") = false := by decide
  have q3 : (Value.type "zip" == Value.type "tuple") = false := by decide
  simp only [q1, q2, q3, Bool.or_false, Bool.false_eq_true, if_false]
  refine wpAny_bind (wpAny_pyIter_zip tn.1.1 ?_)
  refine wpAny_bind (wpAny_holding ?_)
  unfold Builtin.List.listLengthHint
  refine wpAny_bind (wpAny_specialOf zt zip_no_len ?_)
  show wpAny _ A.in1 (specialOf (Value.ref (I + 4)) (Str.ofString "__length_hint__") >>= _) _ _ _
  refine wpAny_bind (wpAny_specialOf zt zip_no_hint ?_)
  refine wpAny_pure ?_
  show wpAny _ A.in1 (rule "list.extend.makes-room" >>= fun _ => Builtin.List.listTouch (.ref (I + 5)) >>= fun _ => again (.builtin "list.extend.loop" ⟨[.ref (I + 5), .ref (I + 4), res], []⟩)) _ _ _
  refine wpAny_bind (wpAny_rule (wpAny_bind ?_))
  show wpAny _ A.in1 (updateSeq (I + 5) (·.push .none) >>= fun _ => updateSeq (I + 5) (·.pop)) _ _ _
  refine wpAny_bind (wpAny_updateSeq hL rfl ?_)
  have g1 := Heap.get?_update_self (Obj.mapSeq (·.push Value.none)) hL rfl
  have k1 := Heap.SameBut.update s.heap (I + 5) (Obj.mapSeq (·.push Value.none))
  generalize s.heap.update (I + 5) (Obj.mapSeq (·.push Value.none)) = hx at g1 k1 ⊢
  refine wpAny_updateSeq (hz := by seq_fits) g1 rfl ?_
  have g2 := Heap.get?_update_self (Obj.mapSeq (·.pop)) g1 rfl
  have k2 := Heap.SameBut.update hx (I + 5) (Obj.mapSeq (·.pop))
  generalize hx.update (I + 5) (Obj.mapSeq (·.pop)) = hy at g2 k2 ⊢
  have kk : ∀ c o, c ≠ I + 5 → s.heap.get? c = some o → hy.get? c = some o := fun c o hc e => k2.extBut _ _ hc (k1.extBut _ _ hc e)
  have hS : ∀ c ∈ fpM I, c ≠ I + 5 := fun c h e => by
    rw [e] at h
    have h' : (I + 5 : Nat) ∈ ([I + 4, I + 2, I + 3, I, I + 1] : List Nat) := h
    simp at h'
  refine wpAny_pure ⟨plainId_quiet F.plain_extend_loop _, zip_loopT hd ha hb hn zn res low hl0 ht0 n 0 _ #[] _ [] rfl (Nat.zero_le _) ?_ g2 rfl rfl ⟨fun j t e => by simp at e, fun t h => (nomatch h), List.Pairwise.nil⟩ (fun c o e => kk c o (Nat.ne_of_lt (Nat.lt_trans (low c o e) (Nat.lt_add_of_pos_right (by decide)))) (old c o e)) fin⟩
  refine .inl ⟨rfl, ?_⟩
  obtain ⟨⟨t1, t2⟩, ⟨p, q, t3⟩, t4, t5⟩ := tn
  exact ⟨⟨kk _ _ (hS _ (by simp)) t1, kk _ _ (hS _ (by simp)) t2⟩, ⟨p, q, kk _ _ (hS _ (by simp)) t3⟩, t4.at fun o z => kk _ _ (hS _ (by simp)) z, t5.at fun o z => kk _ _ (hS _ (by simp)) z⟩
/-- list(zip(a list, a tuple)) -/
theorem call_ziplT {Q : Value → Shared → Prop} (hd : A.handled = none) (ha : a < I) (hb : b < I) {n : Nat} (hn : n = min us.size vs.size) (zn : n ≤ sizeLine) {h0 : Heap} (low : ∀ c o, h0.get? c = some o → c < I) (hl0 : h0.IsTuple a us) (ht0 : h0.IsTuple b vs)
    (tn : tnMT I a b 0 s.heap) (hI : s.heap.objs.size = I + 5) (old : ∀ c o, h0.get? c = some o → s.heap.get? c = some o)
    (fin : ∀ h' tk acc' cc' ts', h'.get? (I + 5) = some (lstO acc' cc') → acc'.toList = ts'.map Value.ref → ts'.length = n → Prs I us vs h' ts' → (∀ c o, h0.get? c = some o → h'.get? c = some o) → Q (.ref (I + 5)) { s with heap := h', toks := tk }) :
    wpAny (model prog w) A (call (.type "list") [.ref (I + 4)]) Q E s := by
  refine callType_codes (Q₁ := fun ob sx => ob = .ref (I + 5) ∧ sx = { s with heap := s.heap.push { cls := .type "list", data := .seq #[] } }) F.called_list (F.typeCall_list_1 _) F.entry_list_init
    (code_list_new _ ⟨by rw [hI], rfl⟩) fun ob sx hx => ?_
  obtain ⟨rfl, rfl⟩ := hx
  have g0 : (s.heap.push { cls := .type "list", data := .seq #[] }).get? (I + 5) = some (lstO #[] 0) := by
    rw [← hI]
    exact Heap.get?_push_size _ rfl
  refine ⟨⟨_, g0, rfl⟩, F.args_list_init_2 _ _, ?_⟩
  show wpAny _ A.in1.in1 (do let was ← Builtin.List.listItems (.ref (I + 5)); Builtin.List.listUpdate (.ref (I + 5)) (fun _ => #[]); letGo was.toList.reverse; Builtin.List.listExtendWith (.ref (I + 5)) (.ref (I + 4)) .none) _ _ _
  refine wpAny_bind ?_
  unfold Builtin.List.listItems
  refine wpAny_bind (wpAny_seqItems g0 rfl (wpAny_pure ?_))
  show wpAny _ _ (updateSeq (I + 5) (fun _ => #[]) >>= fun _ => letGo (#[] : Array Value).toList.reverse >>= fun _ => Builtin.List.listExtendWith (.ref (I + 5)) (.ref (I + 4)) .none) _ _ _
  refine wpAny_bind (wpAny_updateSeq g0 rfl ?_)
  have g1 := Heap.get?_update_self (Obj.mapSeq (fun _ => (#[] : Array Value))) g0 rfl
  have k1 := Heap.SameBut.update (s.heap.push { cls := .type "list", data := .seq #[] }) (I + 5) (Obj.mapSeq (fun _ => (#[] : Array Value)))
  generalize (s.heap.push { cls := .type "list", data := .seq #[] }).update (I + 5) (Obj.mapSeq (fun _ => (#[] : Array Value))) = hy at g1 k1 ⊢
  have kk : ∀ c o, s.heap.get? c = some o → hy.get? c = some o := fun c o e => k1.extBut _ _ (Nat.ne_of_lt (by
    have := Heap.lt_size e
    rw [hI] at this
    exact this)) (Heap.get?_push_of_some _ e)
  refine wpAny_bind (wpAny_letGo ?_)
  obtain ⟨⟨t1, t2⟩, ⟨p, q, t3⟩, t4, t5⟩ := tn
  exact zip_extT (A := A.in1) hd ha hb hn zn .none low hl0 ht0 ⟨⟨kk _ _ t1, kk _ _ t2⟩, ⟨p, q, kk _ _ t3⟩, t4.at fun o z => kk _ _ z, t5.at fun o z => kk _ _ z⟩ g1 (fun c o e => kk c o (old c o e)) fun h' tk acc' cc' ts' e1 e2 e3 e4 e5 => ⟨rfl, fin h' tk acc' cc' ts' e1 e2 e3 e4 e5⟩
end
/-! ### the reading -/
section
variable {X : Cx} {a b : Expr} {wa wb : WE}
def wZipLT (wa wb : WE) : WE := fun ρ M Q => wa ρ M fun d M1 => wb ρ M1 fun e M2 => ∃ xs ys, d = .tup xs ∧ e = .tup ys ∧ ∀ q, M2 q = none → Q (.ref q) (up M2 q (.lst (zipI xs ys)))
theorem pd_zipLT {p1 p2 pos1 pos : Pos} (hc : X.calm = true) (hg : Gl X "list") (hm : X.mg "list" = none) (hg2 : Gl X "zip") (hm2 : X.mg "zip" = none) (ha : PE X a (tD X.K wa)) (hb : PE X b (tD X.K wb)) (hs : starEach [a, b] X.env = (false, eval a X.env) :: starEach [b] X.env) (hs2 : starEach [b] X.env = [(false, eval b X.env)]) :
    PE X (.Call (.Name "list" p1) [.Call (.Name "zip" p2) [a, b] [] pos1] [] pos) (tD X.K (wZipLT wa wb)) := by
  refine ⟨fun pins s σ H Q Iv hh => ?_⟩
  obtain ⟨ρ, M, F, Q0, st, q, g⟩ := hh
  have args := pda_cons ha (pda_cons hb pda_nil hs2) hs
  refine wpAny_Call_Name_kw (ld_blt Iv hg hm PyProof.Rows.boot_list (PyProof.Rows.callWith_type1 (rest := []) ?_))
  refine Calls.spliced_cons (wpAny_Call_Name_kw (ld_blt Iv hg2 hm2 PyProof.Rows.boot_zip (PyProof.Rows.callWith_type1 (thn (args.run pos1 pins s σ H (fun vs H1 => ∃ x y vs1 vs2 xs ys M2, vs = [.ref x, .ref y] ∧ SqT X.K H1 x vs1 ∧ SqT X.K H1 y vs2 ∧ Reps X.K H1 xs vs1 ∧ Reps X.K H1 ys vs2 ∧ RepM X.K H1 M2 ∧ TupS X.K H H1 ∧ Frm F H H1 M2 ∧ ∀ q, M2 q = none → Q0 (.ref q) (up M2 q (.lst (zipI xs ys)))) Iv ⟨ρ, M, F, _, st, arg2 q, fun ds M1 vs H1 q1 t1 f1 r1 pp => ?_⟩) fun zs s1 ⟨ws, H1, I1, rr, q1⟩ => ?_) hs (by rw [hs2]; rfl))))
  · obtain ⟨d, e, rfl, xs, ys, rfl, rfl, q1⟩ := q1
    obtain ⟨v, u, rfl, pa, pb⟩ := pp.two
    unfold Rep at pa pb
    obtain ⟨x, vs1, rfl, w1, w2⟩ := pa
    obtain ⟨y, us, rfl, s2, p4⟩ := pb
    exact ⟨x, y, vs1, us, xs, ys, M1, rfl, w1, s2, w2, p4, r1, t1, f1, q1⟩
  obtain ⟨x, y, vs1, vs2, xs, ys, M2, rfl, w1, w2, rx, ry, rm, t1, f1, q1⟩ := q1
  cases rr with
  | cons k1 rr =>
  cases rr with
  | cons k2 rr =>
  cases rr
  cases k1
  cases k2
  obtain ⟨is1, r1, pl1, _⟩ := I1.tuple w1
  obtain ⟨is2, r2, pl2, _⟩ := I1.tuple w2
  have hx : x < s1.heap.objs.size := pl1.lt
  have hy : y < s1.heap.objs.size := pl2.lt
  have zl1 := r1.length
  have zl2 := r2.length
  refine call_mixT pl1 pl2 fun h1 tn hk hsz => ?_
  refine Calls.spliced_nil ?_
  have zn : min is1.length is2.length ≤ sizeLine := by
    obtain ⟨_, _, _, zz⟩ := I1.tuple w1
    omega
  refine call_ziplT (I := s1.heap.objs.size) (I1.ok.hd hc) hx hy (n := min is1.length is2.length) (by rw [List.size_toArray, List.size_toArray]) zn (fun c o e => Heap.lt_size e) pl1 pl2 tn hsz hk fun h' tk acc cc ts e1 e2 e3 pr old => ?_
  -- what is new
  have nd : ts.Nodup := pr.inc.imp fun h => Nat.ne_of_lt h
  generalize hL : ts.zipIdx.map (fun p => (p.1, HO.tup [vs1.getD p.2 .non, vs2.getD p.2 .non])) = L
  have hL1 : L.map (·.1) = ts := by
    rw [← hL, List.map_map]
    show ts.zipIdx.map Prod.fst = ts
    simp
  have hmem : ∀ p ∈ L, ∃ j, ts[j]? = some p.1 ∧ p.2 = HO.tup [vs1.getD j .non, vs2.getD j .non] := fun p hp => by
    rw [← hL] at hp
    obtain ⟨z, hz, rfl⟩ := List.mem_map.mp hp
    obtain ⟨t, j⟩ := z
    have := List.mem_zipIdx_iff_getElem?.mp hz
    exact ⟨j, this, rfl⟩
  have hin : ∀ j t, ts[j]? = some t → (t, HO.tup [vs1.getD j .non, vs2.getD j .non]) ∈ L := fun j t e => by
    rw [← hL]
    exact List.mem_map.mpr ⟨(t, j), List.mem_zipIdx_iff_getElem?.mpr e, rfl⟩
  have nd2 : ((L ++ [(s1.heap.objs.size + 5, HO.lst (ts.map V.ref))]).map (·.1)).Nodup := by
    rw [List.map_append, hL1]
    refine List.nodup_append.mpr ⟨nd, by simp, fun u hu w hw e => ?_⟩
    have := pr.rng u hu
    rw [List.map_cons, List.map_nil, List.mem_singleton] at hw
    subst hw
    omega
  have far : ∀ p ∈ L ++ [(s1.heap.objs.size + 5, HO.lst (ts.map V.ref))], s1.heap.objs.size ≤ p.1 := fun p hp => by
    rcases List.mem_append.mp hp with h | h
    · obtain ⟨j, ej, _⟩ := hmem p h
      have := pr.rng p.1 (List.mem_of_getElem? ej)
      omega
    · rw [List.mem_singleton.mp h]
      omega
  have Hn : ∀ p ∈ L ++ [(s1.heap.objs.size + 5, HO.lst (ts.map V.ref))], H1 p.1 = none := fun p hp => I1.hok.fresh (far p hp)
  have eH : updT H1 (L ++ [(s1.heap.objs.size + 5, HO.lst (ts.map V.ref))]) = upd (updT H1 L) (s1.heap.objs.size + 5) (.lst (ts.map V.ref)) := by
    unfold updT
    rw [List.foldl_append]
    rfl
  have at_ : ∀ j t, ts[j]? = some t → ∃ u v x' y', vs1[j]? = some u ∧ vs2[j]? = some v ∧ RelV u x' ∧ RelV v y' ∧ IsTupOf2 h' t x' y' := fun j t e => by
    obtain ⟨x', y', a1, a2, a3⟩ := pr.at_ j t e
    rw [List.getElem?_toArray] at a1 a2
    have b1 : j < vs1.length := by have := (List.getElem?_eq_some_iff.mp a1).1; omega
    have b2 : j < vs2.length := by have := (List.getElem?_eq_some_iff.mp a2).1; omega
    obtain ⟨u', c1, c2⟩ := r1.get (List.getElem?_eq_getElem b1)
    obtain ⟨v', d1, d2⟩ := r2.get (List.getElem?_eq_getElem b2)
    rw [a1] at c1
    rw [a2] at d1
    cases c1
    cases d1
    exact ⟨_, _, _, _, List.getElem?_eq_getElem b1, List.getElem?_eq_getElem b2, c2, d2, a3⟩
  have gd : ∀ {l : List V} {j : Nat} {u : V}, l[j]? = some u → l.getD j .non = u := fun e => by rw [List.getD_eq_getElem?_getD, e]; rfl
  have If : Inv X pins σ (updT H1 (L ++ [(s1.heap.objs.size + 5, HO.lst (ts.map V.ref))])) { s1 with heap := h', toks := tk } := by
    refine inv_many I1 old _ far fun p hp => ?_
    rcases List.mem_append.mp hp with h | h
    · obtain ⟨j, ej, e2⟩ := hmem p h
      obtain ⟨u, v, x', y', g1, g2, g3, g4, g5⟩ := at_ j _ ej
      rw [e2, gd g1, gd g2]
      exact ⟨by show 2 ≤ sizeLine; decide, [x', y'], .cons g3 (.cons g4 .nil), ⟨_, g5, rfl, _, rfl⟩⟩
    · rw [List.mem_singleton.mp h]
      refine ⟨by rw [List.length_map, e3]; exact zn, ts.map Value.ref, cc, ?_, ?_⟩
      · exact vals_new ts
      · have ea : acc = (ts.map Value.ref).toArray := by rw [← e2]
        rw [← ea]
        exact e1
  have ndL : (L.map (·.1)).Nodup := by rw [hL1]; exact nd
  have HnL : ∀ p ∈ L, H1 p.1 = none := fun p hp => Hn p (List.mem_append_left _ hp)
  obtain ⟨rm2, tt2⟩ := repm_many (M := M2) L H1 ndL HnL rm
  have ff2 := frm_many (M := M2) L H1 ndL HnL (st.fr.next f1)
  have hpn : updT H1 L (s1.heap.objs.size + 5) = none := by
    rw [updT_none L H1 _ fun p hp e => ?_]
    · exact I1.hok.fresh (Nat.le_add_right _ _)
    · obtain ⟨j, ej, _⟩ := hmem p hp
      have := pr.rng p.1 (List.mem_of_getElem? ej)
      exact absurd e (Nat.ne_of_gt this)
  rw [eH] at If
  have zz : (zipI xs ys).length = ts.length := by rw [zipI_len, rx.length, ry.length, e3, zl1, zl2]
  have tq : TupS X.K (updT H1 L) (upd (updT H1 L) (s1.heap.objs.size + 5) (.lst (ts.map V.ref))) := .new hpn
  have ro : RepO X.K (upd (updT H1 L) (s1.heap.objs.size + 5) (.lst (ts.map V.ref))) (s1.heap.objs.size + 5) (.lst (zipI xs ys)) := by
    refine ⟨_, upd_same, reps_of (by rw [List.length_map]; exact zz) fun j d v ed ev => ?_⟩
    rw [List.getElem?_map] at ev
    cases et : ts[j]? with
    | none => rw [et] at ev; cases ev
    | some t =>
    rw [et] at ev
    cases ev
    obtain ⟨u, v, x', y', g1, g2, _⟩ := at_ j t et
    obtain ⟨d1, c1, c2⟩ := rx.get' g1
    obtain ⟨d2, c3, c4⟩ := ry.get' g2
    rw [zipI_get c1 c3] at ed
    cases ed
    have := updT_at L H1 ndL _ (hin j t et)
    rw [gd g1, gd g2] at this
    unfold Rep
    exact ⟨t, _, rfl, tq _ _ (.of this), .cons ((c2.stay tt2).stay tq) (.cons ((c4.stay tt2).stay tq) .nil)⟩
  have hM2 := rm2.none hpn
  refine ⟨.ref (s1.heap.objs.size + 5), _, If, rfl, ?_⟩
  have fq := ((st.fr.next f1).next ff2).new (u := .lst (ts.map V.ref)) hpn (.lst (zipI xs ys))
  exact g _ _ _ _ (q1 _ hM2) ((t1.trans tt2).trans tq) ((f1.trans ff2).trans fq) (rm2.new hpn ro) rfl
end
end DL

set_option Elab.async false
set_option linter.all false
set_option maxRecDepth 100000
set_option maxHeartbeats 4000000
/-! DLze: xs[a::n] of a list. -/
namespace DL
open PySem PySem.Spec PyProof.Rows L2
variable {K : PySem.W.Frag}
def stepJ (l : Option Int) (n : Int) (len : Nat) : List Nat := sliceRange (sliceBounds l none (some n) len).1 (sliceBounds l none (some n) len).2.1 (sliceBounds l none (some n) len).2.2
def pickJ {α : Type} (J : List Nat) (xs : List α) : List α := J.filterMap fun j => xs[j]?
theorem pickJ_vals {xs : List V} {us : List Value} (r : Vals xs us) : ∀ J, Vals (pickJ J xs) (pickJ J us)
  | [] => .nil
  | j :: J => by
    unfold pickJ
    rw [List.filterMap_cons, List.filterMap_cons]
    cases e : xs[j]? with
    | none =>
      have : us[j]? = none := by rw [List.getElem?_eq_none_iff] at e ⊢; rw [← r.length]; exact e
      rw [this]
      exact pickJ_vals r J
    | some x =>
      obtain ⟨u, e2, ru⟩ := Vals.get r e
      rw [e2]
      exact .cons ru (pickJ_vals r J)
theorem Reps.nth {H : Hp} : ∀ {ds : List D} {vs : List V} {j : Nat} {d : D}, Reps K H ds vs → ds[j]? = some d → ∃ v, vs[j]? = some v ∧ Rep K H d v
  | [], _, _, _, _, e => by simp at e
  | d :: ds, _, j, x, h, e => by
    unfold Reps at h
    obtain ⟨v, r, rfl, h1, h2⟩ := h
    cases j with
    | zero => simp at e; subst e; exact ⟨v, rfl, h1⟩
    | succ j => simpa using Reps.nth h2 (by simpa using e)
theorem pickJ_reps {H : Hp} {ds : List D} {vs : List V} (r : Reps K H ds vs) : ∀ J, Reps K H (pickJ J ds) (pickJ J vs)
  | [] => .nil
  | j :: J => by
    unfold pickJ
    rw [List.filterMap_cons, List.filterMap_cons]
    cases e : ds[j]? with
    | none =>
      have : vs[j]? = none := by rw [List.getElem?_eq_none_iff] at e ⊢; rw [← r.length]; exact e
      rw [this]
      exact pickJ_reps r J
    | some x =>
      obtain ⟨u, e2, ru⟩ := Reps.nth r e
      rw [e2]
      exact .cons ru (pickJ_reps r J)
theorem pick_eq {its : List Value} {l : Option Int} {n : Int} : slicePick its.toArray l none (some n) = (pickJ (stepJ l n its.length) its).toArray := by
  unfold slicePick pickJ stepJ
  have e : its.toArray.size = its.length := List.size_toArray
  rw [e]
  congr 2
  funext x
  exact List.getElem?_toArray
theorem pickJ_len {α : Type} {xs : List α} {l : Option Int} {n : Int} : (pickJ (stepJ l n xs.length) xs).length ≤ xs.length := by
  have h := slicePick_size_le (List.replicate xs.length Value.none).toArray l none (some n)
  rw [pick_eq, List.size_toArray, List.size_toArray, List.length_replicate] at h
  have e : ∀ (J : List Nat), (pickJ J xs).length = (pickJ J (List.replicate xs.length Value.none)).length := fun J => by
    induction J with
    | nil => rfl
    | cons j J ih =>
      unfold pickJ at ih ⊢
      rw [List.filterMap_cons, List.filterMap_cons]
      by_cases hj : j < xs.length
      · rw [List.getElem?_eq_getElem hj, List.getElem?_eq_getElem (by rw [List.length_replicate]; exact hj)]
        simp only [List.length_cons, ih]
      · rw [List.getElem?_eq_none (by omega), List.getElem?_eq_none (by rw [List.length_replicate]; omega)]
        exact ih
  rw [e]
  exact h
section
variable {X : Cx}
def tStepL (K : PySem.W.Frag) (n : Int) (te : TE) (tl : TO) : TE := fun σ H Q => te σ H fun x H1 => tl σ H1 fun l H2 => ∃ a xs, x = V.ref a ∧ SqL K H2 a xs ∧ ∀ p, H2 p = none → Q (.ref p) (upd H2 p (.lst (pickJ (stepJ l n xs.length) xs)))
theorem pe_stepL {e : Expr} {lo : Option Expr} {te : TE} {tl : TO} {n : Int} {k : Nat} {p1 p3 pos : Pos} (hn : n ≠ 0) (he : PE X e te) (hl : PO X lo tl) : PE X (.Subscript e (.Slice lo none (some (.Constant (.int n) k p1)) p3) pos) (tStepL X.K n te tl) := by
  refine ⟨fun pins s σ H Q I h => ?_⟩
  refine Subscript_ (thn (he.run pins s σ H _ I h) fun v s1 ⟨x, H1, I1, r1, q1⟩ => ?_)
  have hst : PO X (some (.Constant (.int n) k p1)) (tPart (tC (.int n))) := po_some pe_int
  refine wpAny_Slice (thn (hl.run pins s1 σ H1 _ I1 q1) fun vl s2 ⟨l, H2, I2, pl, q2⟩ => ?_)
  obtain ⟨a, xs, ex, hx, q⟩ := q2
  subst ex
  cases r1
  refine thn (po_none.run pins s2 σ H2 (fun o H3 => o = none ∧ H3 = H2) I2 ⟨rfl, rfl⟩) fun vu s3 ⟨u, H3, I3, pu, eu, e3⟩ => ?_
  subst eu e3
  refine thn (hst.run pins s3 σ H3 (fun o H4 => o = some n ∧ H4 = H3) I3 ⟨n, rfl, rfl, rfl⟩) fun vs s4 ⟨o, H4, I4, ps, eo, e4⟩ => ?_
  subst eo e4
  have I5 : L2.Inv X pins σ H4 { s4 with heap := s4.heap.push { cls := .type "slice", data := .fields #[vl, vu, vs] } } := I4.kept (t' := s4.toks) fun b ob q => Heap.get?_push_of_some _ q
  obtain ⟨its, r, ht, hz⟩ := I5.list hx
  have hlen := r.length
  refine (show wpAny (model X.prog X.w) X.A (subscriptTail e (.Slice lo none (some (.Constant (.int n) k p1)) p3) (.ref a) (.ref s4.heap.objs.size)) (EP X pins σ Q) X.xe { s4 with heap := s4.heap.push { cls := .type "slice", data := .fields #[vl, vu, vs] } } from ?_)
  refine tail_any (ops := [.ref a, .ref s4.heap.objs.size]) ht.isList.typeIs (PySem.slot_list_getitem.lookup) ?_ (by with_unfolding_all rfl)
  refine wpAny_getItem_list_slice ht.isList (Heap.IsSliceOf.new _ vl vu vs) pl pu ps (fun z => hn (by injection z)) ?_ (by rw [List.size_toArray]; omega)
  rw [pick_eq, ← hlen]
  refine ⟨.ref _, _, I5.laid (t' := s4.toks) (o := .lst (pickJ (stepJ l n xs.length) xs)) (fun b ob q => Heap.get?_push_of_some _ q) (Nat.le_refl _) ?_, rfl, q _ (I5.hok.fresh (Nat.le_refl _))⟩
  exact ⟨Nat.le_trans pickJ_len hz, _, 0, pickJ_vals r _, Heap.get?_push_size _ rfl⟩
def stepD (n : Int) : D → Option Int → Mp → DQ → Prop := fun x l M Q => ∃ a ds, x = .ref a ∧ M a = some (.lst ds) ∧ ∀ p, M p = none → Q (.ref p) (up M p (.lst (pickJ (stepJ l n ds.length) ds)))
def wStep (n : Int) (wa : WE) (wl : WO) : WE := fun ρ M Q => wa ρ M fun x M1 => wl ρ M1 fun l M2 => stepD n x l M2 Q
theorem pd_stepL {a : Expr} {lo : Option Expr} {wa : WE} {wl : WO} {n : Int} {k : Nat} {p1 p3 pos : Pos} (hn : n ≠ 0) (ha : PE X a (tD X.K wa)) (hl : PO X lo (tDO X.K wl)) : PE X (.Subscript a (.Slice lo none (some (.Constant (.int n) k p1)) p3) pos) (tD X.K (wStep n wa wl)) :=
  (pe_stepL hn ha hl).imp fun σ H Q => by
    rintro ⟨ρ, M, F, Q0, s, q, g⟩
    refine ⟨ρ, M, F, _, s, q, fun x M1 v H1 q1 t1 f1 r1 p1 => ?_⟩
    refine ⟨ρ, M1, F, _, s.next t1 f1 r1, q1, fun l M2 H2 q2 t2 f2 r2 => ?_⟩
    obtain ⟨a, ds, rfl, e0, h⟩ := q2
    cases p1
    obtain ⟨vs, e1, rr⟩ := r2 _ _ e0
    have el := rr.length
    refine ⟨a, vs, rfl, .of e1, fun p hp => ?_⟩
    have gg := (g.from t1 f1).from t2 f2
    rw [← el]
    exact gg _ _ _ _ (h p (r2.none hp)) (.new hp) (((s.fr.next f1).next f2).new hp _) (r2.new hp ⟨_, upd_same, (pickJ_reps rr _).stay (.new hp)⟩) rfl
end
end DL

set_option Elab.async false
set_option linter.all false
set_option maxRecDepth 100000
set_option maxHeartbeats 8000000
/-! DLzf: a number looked for in range(n). -/
namespace DL
open PySem L2
variable {K : PySem.W.Frag}
section
variable {X : Cx} {a b : Expr} {wa wb : WE} {pos : Pos}
theorem cr_range1 : CallR X (.type "range") (fun vs H Q => ∃ j, vs = [V.int j] ∧ ∀ p, H p = none → Q (.ref p) (upd H p (.rng 0 j))) := by
  intro pins s σ H vs us Q I r h
  obtain ⟨j, rfl, q⟩ := h
  cases r with
  | cons r rr =>
    cases rr
    obtain ⟨t, rfl⟩ := r
    refine call_range_1 ⟨.ref s.heap.objs.size, upd H s.heap.objs.size (.rng 0 j), I.laid (t' := s.toks + 1 + 1) (fun b o e => Heap.get?_push_of_some _ e) (Nat.le_refl _) ?_, rfl, q _ (I.hok.fresh (Nat.le_refl _))⟩
    exact ⟨s.toks, t, s.toks + 1, Heap.get?_push_size _ rfl⟩
def inRgD : D → D → Mp → DQ → Prop := fun x y M Q => ∃ i n : Int, x = .int i ∧ y = .int n ∧ Q (.bl (decide (0 ≤ i ∧ i < n))) M
theorem pd_inRg {p2 pos1 : Pos} (hgr : Gl X "range") (hmr : X.mg "range" = none) (ha : PE X a (tD X.K wa)) (hb : PE X b (tD X.K wb)) (hs : notStar b = true) :
    PE X (.Compare a [.In] [.Call (.Name "range" p2) [b] [] pos1] pos) (tD X.K (w2 inRgD wa wb)) := by
  have hr := pe_callTy (p := p2) (pos := pos1) cr_range1 hgr hmr PyProof.Rows.boot_range (pda_cons hb pda_nil (star_of hs _ _)) (by decide) (by decide) (star_of hs _ _) rfl
  refine (pe_cmpR (pos := pos) op_in_rng ha hr rfl).imp fun σ H Q => ?_
  rintro ⟨ρ, M, F, Q0, s, q, g⟩
  refine ⟨ρ, M, F, _, s, q, fun x M1 v H1 q1 t1 f1 r1 p1 => ?_⟩
  refine ⟨ρ, M1, F, fun ds M2 => match ds with | [y] => inRgD x y M2 Q0 | _ => False, s.next t1 f1 r1, ?_, fun ds M2 vs H2 q2 t2 f2 r2 p2 => ?_⟩
  · show wb ρ M1 _
    exact q1
  match ds, q2, p2 with
  | [y], q2, p2 =>
  obtain ⟨i, n, rfl, rfl, q2⟩ := q2
  cases p1
  obtain ⟨u, rfl, pz⟩ := p2.one
  cases pz
  refine ⟨n, rfl, fun p hp => ⟨i, p, 0, n, rfl, rfl, upd_same, ?_⟩⟩
  exact g _ M2 _ _ q2 ((t1.trans t2).trans (.new hp)) ((f1.trans f2).trans (((s.fr.next f1).next f2).more hp)) (r2.more hp) rfl
end
end DL

set_option Elab.async false
set_option linter.all false
set_option maxRecDepth 100000
set_option maxHeartbeats 8000000
/-! DLzg: sorted(set(list of tuples of texts and ints)). -/
namespace DL
open PySem PySem.Spec PyProof.Rows L2
section
variable {P : Program} {w : World} {A : Around} {E : Value → Shared → Prop} {s : Shared}
/-- b is a tuple of texts and ints -/
abbrev MT (P : Program) (w : World) (h : Heap) (k : List Key) (b : Addr) : Prop := IsTupleKey (mixKind P w) h k b
abbrev mh (P : Program) (w : World) (k : List Key) : Int := tupleKeyHash (mixKind P w) k
def Flat (v : Value) : Prop := (∃ i t, v = Value.int i t) ∨ ∃ z t, v = Value.str z t
theorem flat_item {k : List Key} {us : List Value} (h : PySem.ItemsAre (mixKind P w) k us) : ∀ v ∈ us, Flat v := by
  induction h with
  | nil => exact fun v hv => nomatch hv
  | @cons q u ks us hq _ ih =>
    intro v hv
    rcases List.mem_cons.mp hv with rfl | hv
    · rcases keyIs_shape hq with ⟨i, t, _, e⟩ | ⟨z, t, _, e⟩
      · exact .inl ⟨i, t, e⟩
      · exact .inr ⟨z, t, e⟩
    · exact ih v hv
theorem flat_class {v : Value} (h : Flat v) (n : Nat) : ofAClassStatement n v = pure false := by
  rcases h with ⟨i, t, rfl⟩ | ⟨z, t, rfl⟩ <;> cases n <;> rfl
theorem flat_byv {v : Value} (h : Flat v) (n : Nat) : ∃ b, hashByValue n v = pure b := by
  rcases h with ⟨i, t, rfl⟩ | ⟨z, t, rfl⟩
  · exact ⟨true, by cases n <;> rfl⟩
  · exact ⟨false, by cases n <;> rfl⟩
theorem mt_class {k : List Key} {b : Addr} {Q : Bool → Shared → Prop} (hk : MT P w s.heap k b) (q : Q false s) : wpAny (model P w) A (ofAClassStatement 8 (.ref b)) Q E s := by
  have ty := hk.typeIs
  obtain ⟨o, its, n, ho, _, dat, it⟩ := hk
  have fl := flat_item it
  have et : (("tuple" : String) == "tuple") = true := by decide
  unfold ofAClassStatement
  refine wpAny_bind (wpAny_typeOf ty ?_)
  dsimp only
  simp only [et, Bool.not_true, if_true, if_false, Bool.false_eq_true]
  try refine wpAny_bind (wpAny_pure ?_)
  try simp only [if_false, Bool.false_eq_true, Bool.not_true]
  refine wpAny_bind (wpAny_seqItems ho dat ?_)
  dsimp only
  refine wpAny_bind ?_
  show wpAny _ _ (forIn its _ _) _ _ s
  rw [← Array.forIn_toList]
  refine wpAny_forIn_list _ (fun rest r s2 => (s2 = s ∧ r.1 = none) ∧ ∀ v ∈ rest, Flat v) _ (fun v rest r s2 hJ => ?_) (fun r s2 hJ => ?_) _ _ ⟨⟨rfl, rfl⟩, fl⟩
  · obtain ⟨⟨rfl, hr⟩, hall⟩ := hJ
    rw [flat_class (hall v (.head _))]
    refine wpAny_bind (wpAny_pure ?_)
    simp only [if_false, Bool.false_eq_true]
    exact wpAny_pure ⟨⟨rfl, rfl⟩, fun u hu => hall u (.tail _ hu)⟩
  · obtain ⟨⟨rfl, hr⟩, _⟩ := hJ
    obtain ⟨r1, r2⟩ := r
    simp only at hr
    subst hr
    exact wpAny_pure q
theorem mt_byv {k : List Key} {b : Addr} {Q : Bool → Shared → Prop} (hk : MT P w s.heap k b) (q : ∀ r, Q r s) : wpAny (model P w) A (hashByValue 8 (.ref b)) Q E s := by
  have ty := hk.typeIs
  obtain ⟨o, its, n, ho, _, dat, it⟩ := hk
  have fl := flat_item it
  unfold hashByValue
  refine wpAny_bind (wpAny_specialOf ty F.slot_tuple_hash.lookup ?_)
  dsimp only
  refine wpAny_bind (wpAny_seqItems ho dat ?_)
  refine wpAny_bind ?_
  show wpAny _ _ (forIn its _ _) _ _ s
  rw [← Array.forIn_toList]
  refine wpAny_forIn_list _ (fun rest r s2 => (s2 = s ∧ r.1 = none) ∧ ∀ v ∈ rest, Flat v) _ (fun v rest r s2 hJ => ?_) (fun r s2 hJ => ?_) _ _ ⟨⟨rfl, rfl⟩, fl⟩
  · obtain ⟨⟨rfl, hr⟩, hall⟩ := hJ
    obtain ⟨y, ey⟩ := flat_byv (hall v (.head _)) 7
    rw [ey]
    refine wpAny_bind (wpAny_pure ?_)
    cases y
    · simp only [Bool.not_false, if_true]
      exact wpAny_pure (wpAny_pure (q false))
    · simp only [if_false, Bool.false_eq_true, Bool.not_true]
      exact wpAny_pure ⟨⟨rfl, rfl⟩, fun u hu => hall u (.tail _ hu)⟩
  · obtain ⟨⟨rfl, hr⟩, _⟩ := hJ
    obtain ⟨r1, r2⟩ := r
    simp only at hr
    subst hr
    exact wpAny_pure (q true)
/-- looking for b among tuples is not seen -/
theorem ms_unseen {k : List Key} {b : Addr} {Q : Bool → Shared → Prop} (hk : MT P w s.heap k b) {ys : List Value} (hy : ∀ y ∈ ys, ∃ c k2, y = Value.ref c ∧ MT P w s.heap k2 c) (q : Q false s) : wpAny (model P w) A (searchCouldBeSeen (.ref b) ys) Q E s := by
  unfold searchCouldBeSeen
  refine wpAny_bind ?_
  refine wpAny_forIn_list _ (fun rest r s2 => (s2 = s ∧ r.1 = none) ∧ ∀ y ∈ rest, ∃ c k2, y = Value.ref c ∧ MT P w s.heap k2 c) _ (fun v rest r s2 hJ => ?_) (fun r s2 hJ => ?_) _ _ ⟨⟨rfl, rfl⟩, hy⟩
  · obtain ⟨⟨rfl, hr⟩, hall⟩ := hJ
    obtain ⟨c, k2, rfl, hc⟩ := hall v (.head _)
    have go : ∀ y ∈ rest, ∃ c k2, y = Value.ref c ∧ MT P w s2.heap k2 c := fun u hu => hall u (.tail _ hu)
    dsimp only
    by_cases very : (b == c || (carriedByValue (.ref b) && carriedByValue (.ref c))) = true
    · exact wp_if_pos very (wpAny_pure ⟨⟨rfl, rfl⟩, go⟩)
    · refine wp_if_neg very (wpAny_bind (wpAny_eqIsQuiet_tuple hk ?_))
      simp only [if_false, Bool.false_eq_true, Bool.not_true]
      refine wpAny_bind (wpAny_eqIsQuiet_tuple hc ?_)
      simp only [if_false, Bool.false_eq_true, Bool.not_true]
      refine wpAny_bind (mt_class hk ?_)
      simp only [if_false, Bool.false_eq_true]
      refine wpAny_bind (mt_class hc ?_)
      simp only [if_false, Bool.false_eq_true]
      exact wpAny_pure ⟨⟨rfl, rfl⟩, go⟩
  · obtain ⟨⟨rfl, hr⟩, _⟩ := hJ
    obtain ⟨r1, r2⟩ := r
    simp only at hr
    subst hr
    exact wpAny_pure q
/-! ### the set -/
abbrev MK := Addr × List Key
def mrows (P : Program) (w : World) (L : List MK) : List (Int × Value) := L.map fun p => (mh P w p.2, Value.ref p.1)
abbrev mhs (P : Program) (w : World) (L : List MK) : List Int := L.map fun p => mh P w p.2
structure MSet (P : Program) (w : World) (h : Heap) (a : Addr) (L : List MK) (es : Array (Int × Value)) (ep : Nat) (t : SetTable) : Prop where
  obj : ∃ o, h.get? a = some o ∧ o.ExactSet ∧ o.data = .set es ep t
  row : es.toList = mrows P w L
  tab : TabOk t (mhs P w L)
  uni : (L.map (·.2)).Nodup
  tup : ∀ p ∈ L, MT P w h p.2 p.1
  ord : w.params.followText "set-order" = true ∨ t.led = true
  gap : L.length * 5 < t.mask * 3
  few : L.length < 64
theorem mrows_len {L : List MK} {es : Array (Int × Value)} (h : es.toList = mrows P w L) : es.size = L.length := by
  rw [← Array.length_toList, h]; exact List.length_map _
theorem mrows_at {L : List MK} {es : Array (Int × Value)} (h : es.toList = mrows P w L) {i : Nat} {p : MK} (e : L[i]? = some p) : es[i]? = some (mh P w p.2, Value.ref p.1) := by
  rw [← Array.getElem?_toList, h, mrows, List.getElem?_map, e]; rfl
theorem fits_of {t : SetTable} {n : Nat} (h1 : t.place.size = n) (h2 : t.dummies = #[]) (h3 : n ≤ t.mask) : t.fits n = true := by
  unfold SetTable.fits SetTable.fill
  rw [h2, h1]
  simp [h3]
variable {a : Addr} {L : List MK} {es : Array (Int × Value)} {ep : Nat} {t : SetTable}
theorem MSet.len (R : MSet P w s.heap a L es ep t) : es.size = L.length := mrows_len R.row
theorem MSet.fit (R : MSet P w s.heap a L es ep t) : t.fits es.size = true := by
  have g := R.gap
  have z := R.tab.sz
  rw [List.length_map] at z
  exact fits_of (by rw [z, R.len]) R.tab.dm (by rw [R.len]; omega)
theorem MSet.gave (R : MSet P w s.heap a L es ep t) : ¬ t.gaveWay = true := by
  unfold SetTable.gaveWay; rw [mask_odd R.tab.mok]; decide
abbrev at0 (m : Nat) (q : Int) (c : Nat) : SetTable.Probe := nth m (runAt m (SetTable.bits q % (m + 1)) (SetTable.bits q)) c
theorem nth_dummy (m : Nat) : ∀ (n : Nat) (p : SetTable.Probe), p.dummy = none → (nth m p n).dummy = none
  | 0, _, h => h
  | n + 1, p, h => nth_dummy m n (adv m p) (by unfold adv; split <;> exact h)
/-- the search -/
theorem ms_find (R : MSet P w s.heap a L es ep t) {x : Addr} {k : List Key} (hx : MT P w s.heap k x) (hu : A.units < cLine) {N : Nat} (far : N < 10 * SetTable.turns t.mask)
    (open_ : way t.mask (mh P w k) N ∉ t.place.toList) (shut : ∀ c, c < N → way t.mask (mh P w k) c ∈ t.place.toList) {Q : SetFound → Shared → Prop}
    (yes : k ∈ L.map (·.2) → Q (.there none) s) (no : k ∉ L.map (·.2) → Q (.free (way t.mask (mh P w k) N) false) s) :
    ∀ (f c : Nat) (st : Option SetTable.Probe), st.getD (t.probeStart (mh P w k)) = at0 t.mask (mh P w k) c → c ≤ N → N - c < f →
      (∀ (i : Nat) p, L[i]? = some p → p.2 = k → ∃ d, (c ≤ d ∧ d < N) ∧ t.place.toList[i]? = some (way t.mask (mh P w k) d)) → wpAny (model P w) A (setSearchFrom a (.ref x) (mh P w k) true f st) Q E s
  | 0, _, _, _, _, hf, _ => (Nat.not_lt_zero _ hf).elim
  | f + 1, c, st, hst, hc, hf, ahead => by
    have ⟨o, ho, hex, hd⟩ := R.obj
    have plus : ∀ q, nth t.mask (at0 t.mask (mh P w k) c) q = at0 t.mask (mh P w k) (c + q) := fun q => (nth_add _ _ _ _).symm
    have plusj : ∀ q, (nth t.mask (at0 t.mask (mh P w k) c) q).j = way t.mask (mh P w k) (c + q) := fun q => by rw [plus q]
    have eN : c + (N - c) = N := by omega
    have walk := go_spec t R.tab.ris R.tab.dm (fun i => (es[i]?.map (·.1)).getD 0) (mh P w k) (10 * SetTable.turns t.mask) (N - c) (at0 t.mask (mh P w k) c) (nth_dummy _ _ _ rfl) (by omega)
      (fun q hq => plusj q ▸ shut (c + q) (by omega)) (by rw [plusj, eN]; exact open_)
    have own : ∀ (i : Nat) p, L[i]? = some p → p.2 = k → (es[i]?.map (·.1)).getD 0 = mh P w k := fun i p e ek => by rw [mrows_at R.row e, ← ek]; rfl
    rw [setSearchFrom_succ]
    refine wpAny_bind (wpAny_setState_of ho hd R.fit ?_)
    dsimp only
    refine wp_if_neg R.gave ?_
    try refine wpAny_bind (wpAny_pure ?_)
    rcases walk with ⟨q, i, hq, hi, _, none_, pr⟩ | ⟨none_, pr⟩
    · have pr2 : t.probe (fun i => (es[i]?.map (·.1)).getD 0) (mh P w k) (st.getD (t.probeStart (mh P w k))) = some (.candidate (way t.mask (mh P w k) (c + q)) i (at0 t.mask (mh P w k) (c + (q + 1)))) := by
        rw [hst, ← plusj, ← plus]; exact pr
      rw [plusj] at hi
      rw [pr2]
      dsimp only
      have il : i < L.length := by
        have z := R.tab.sz
        rw [List.length_map, ← Array.length_toList] at z
        exact z ▸ (List.getElem?_eq_some_iff.mp hi).1
      obtain ⟨p, hp⟩ : ∃ p, L[i]? = some p := ⟨_, List.getElem?_eq_getElem il⟩
      have pin : p ∈ L := List.mem_of_getElem? hp
      have live : t.slot (way t.mask (mh P w k) (c + q)) = .live i := slot_live R.tab.ris hi
      have behind : wpAny (model P w) A (searchRest a (.ref x) (mh P w k) true f es t (way t.mask (mh P w k) (c + q)) i (at0 t.mask (mh P w k) (c + (q + 1)))) Q E s := by
        unfold searchRest
        rw [mrows_at R.row hp]
        dsimp only
        refine wpAny_bind (wpAny_holding (wpAny_eqBool_tuple hu (R.tup p pin) hx ?_))
        refine wpAny_bind (wpAny_setState_of ho hd R.fit ?_)
        dsimp only
        by_cases same : p.2 = k
        · exact wp_if_pos (by rw [decide_eq_true same]; rfl) (wpAny_pure (yes (List.mem_map.mpr ⟨p, pin, same⟩)))
        · refine wp_if_neg (by rw [decide_eq_false same]; simp) ?_
          try refine wpAny_bind (wpAny_pure ?_)
          rw [sameMem]
          simp only [if_true, live, mrows_at R.row hp]
          refine wpAny_bind (wpAny_isSame_ref_self (wpAny_bind (wpAny_pure ?_)))
          simp only [if_true]
          refine wp_if_neg (by rw [decide_eq_false same]; simp) ?_
          refine ms_find R hx hu far open_ shut yes no f (c + (q + 1)) (some _) rfl (by omega) (by omega) fun j r hj hr => ?_
          obtain ⟨d, ⟨d1, d2⟩, d3⟩ := ahead j r hj hr
          refine ⟨d, ⟨?_, d2⟩, d3⟩
          have nd : d ≠ c + q := fun z => by
            rw [z] at d3
            have e2 := live.symm.trans (slot_live R.tab.ris d3)
            injection e2 with e2
            rw [← e2, hp] at hj
            injection hj with hj
            exact same (hj ▸ hr)
          have nl : ¬ d < c + q := fun z => none_ (d - c) j (by omega) (by rw [plusj, show c + (d - c) = d by omega]; exact d3) (own j r hj hr)
          omega
      by_cases hl : t.led = true
      · refine wp_if_neg (by rw [hl]; simp) ?_
        try refine wpAny_bind (wpAny_pure ?_)
        exact behind
      · refine wp_if_pos (by simpa using hl) (wpAny_bind (ms_unseen hx (fun y hy => ?_) ?_))
        · obtain ⟨e, he, rfl⟩ := List.mem_map.mp hy
          have he2 : e ∈ es.toList := by
            have z : e ∈ es ∧ e.1 = mh P w k := by simpa using he
            simpa using z.1
          rw [R.row] at he2
          obtain ⟨r, hr, rfl⟩ := List.mem_map.mp he2
          exact ⟨r.1, r.2, rfl, R.tup r hr⟩
        · refine wp_if_neg (by decide) ?_
          try refine wpAny_bind (wpAny_pure ?_)
          exact behind
    · have pr2 : t.probe (fun i => (es[i]?.map (·.1)).getD 0) (mh P w k) (st.getD (t.probeStart (mh P w k))) = some (.empty (way t.mask (mh P w k) N) none) := by
        have z := plusj (N - c)
        rw [eN] at z
        rw [hst, ← z]; exact pr
      rw [pr2]
      dsimp only
      refine wpAny_pure (no fun hm => ?_)
      obtain ⟨r, hr, er⟩ := List.mem_map.mp hm
      obtain ⟨j, hj, ej⟩ := List.getElem_of_mem hr
      have hj2 : L[j]? = some r := by rw [List.getElem?_eq_getElem hj, ej]
      obtain ⟨d, ⟨d1, d2⟩, d3⟩ := ahead j r hj2 er
      exact none_ (d - c) j (by omega) (by rw [plusj, show c + (d - c) = d by omega]; exact d3) (own j r hj2 er)
theorem ms_search (R : MSet P w s.heap a L es ep t) {x : Addr} {k : List Key} (hx : MT P w s.heap k x) (hu : A.units < cLine) {Q : SetFound → Shared → Prop} (yes : k ∈ L.map (·.2) → Q (.there none) s)
    (no : ∀ N, k ∉ L.map (·.2) → way t.mask (mh P w k) N ∉ t.place.toList → (∀ c, c < N → way t.mask (mh P w k) c ∈ t.place.toList) → Q (.free (way t.mask (mh P w k) N) false) s) : wpAny (model P w) A (setSearch a (.ref x) (mh P w k) true) Q E s := by
  have g := R.gap
  obtain ⟨N, far, open_, shut⟩ := R.tab.first (by rw [List.length_map]; omega) (mh P w k)
  have small : N < 100000 := Nat.lt_of_lt_of_le far (by unfold SetTable.turns; rcases R.tab.mok with e | e | e <;> omega)
  unfold setSearch
  refine ms_find R hx hu far open_ shut yes (fun h => no N h open_ shut) 100000 0 none rfl (Nat.zero_le _) small fun i p hp hk => ?_
  have e1 : (mhs P w L)[i]? = some (mh P w k) := by rw [List.getElem?_map, hp, ← hk]; rfl
  have e2 : i < t.place.toList.length := by
    have z := R.tab.sz
    rw [List.length_map, ← Array.length_toList] at z
    rw [z]
    exact (List.getElem?_eq_some_iff.mp hp).1
  obtain ⟨d, d1, d2⟩ := R.tab.before open_ e1 (List.getElem?_eq_getElem e2)
  exact ⟨d, ⟨Nat.zero_le _, d1⟩, by rw [List.getElem?_eq_getElem e2, d2]⟩
/-! ### adding -/
theorem mt_apart {h h2 : Heap} {k : List Key} {b a : Addr} {o : Obj} {es : Array (Int × Value)} {ep : Nat} {t : SetTable} (x : MT P w h k b) (ho : h.get? a = some o) (hd : o.data = .set es ep t) (but : Heap.SameBut a h h2) : MT P w h2 k b := by
  obtain ⟨o2, its, n, h1, h3, h4, h5⟩ := x
  refine ⟨o2, its, n, (but.2 b fun e => ?_).trans h1, h3, h4, h5⟩
  rw [e, ho] at h1
  injection h1 with h1
  rw [← h1, hd] at h4
  cases h4
theorem range_get {α : Type} (L : List α) : (List.range L.length).filterMap (fun i => L[i]?) = L := by
  have gen : ∀ n, n ≤ L.length → (List.range n).filterMap (fun i => L[i]?) = L.take n := fun n => by
    induction n with
    | zero => exact fun _ => rfl
    | succ n ih =>
      intro hn
      rw [List.range_succ, List.filterMap_append, ih (by omega), List.take_succ, List.getElem?_eq_getElem (by omega)]
      simp [List.getElem?_eq_getElem (show n < L.length by omega)]
  rw [gen _ (Nat.le_refl _), List.take_length]
theorem mrows_order {L : List MK} {es : Array (Int × Value)} {order : Array Nat} (h : es.toList = mrows P w L) (pm : order.toList.Perm (List.range L.length)) :
    ∃ L2, (order.filterMap (es[·]?)).toList = mrows P w L2 ∧ L2.Perm L ∧ mhs P w L2 = order.toList.map fun i => (es.map (·.1)).getD i 0 := by
  have gen : ∀ l : List Nat, (∀ i ∈ l, i < L.length) → l.filterMap (fun i => es[i]?) = mrows P w (l.filterMap fun i => L[i]?) ∧ mhs P w (l.filterMap fun i => L[i]?) = l.map fun i => (es.map (·.1)).getD i 0 := fun l => by
    induction l with
    | nil => exact fun _ => ⟨rfl, rfl⟩
    | cons i l ih =>
      intro hl
      have il := hl i (.head _)
      obtain ⟨e1, e2⟩ := ih fun j hj => hl j (.tail _ hj)
      have eL : L[i]? = some L[i] := List.getElem?_eq_getElem il
      have eE := mrows_at h eL
      have eG : (es.map (·.1)).getD i 0 = mh P w (L[i]).2 := by
        rw [Array.getD_eq_getD_getElem?, Array.getElem?_map, eE]; rfl
      rw [List.filterMap_cons_some eE, List.filterMap_cons_some eL, e1, List.map_cons, eG, ← e2]
      exact ⟨rfl, rfl⟩
  obtain ⟨g1, g2⟩ := gen order.toList fun i hi => List.mem_range.mp (pm.mem_iff.mp hi)
  refine ⟨_, by rw [Array.toList_filterMap]; exact g1, ?_, g2⟩
  have z := pm.filterMap fun i => L[i]?
  rwa [range_get] at z
/-- the table is laid anew -/
theorem ms_relay {o : Obj} (ho : s.heap.get? a = some o) (hex : o.ExactSet) (hd : o.data = .set es ep t) (row : es.toList = mrows P w L) (pz : t.place.size = es.size) (dm : t.dummies = #[]) (zm : es.size ≤ t.mask) (uni : (L.map (·.2)).Nodup)
    (tup : ∀ p ∈ L, MT P w s.heap p.2 p.1) (ord : w.params.followText "set-order" = true ∨ t.led = true) (few : L.length < 64) {want M : Nat} (eM : SetTable.sizeAbove want = M + 1) (okM : MaskOk M) (gap : L.length * 5 < M * 3) {Q : Unit → Shared → Prop}
    (q : ∀ h2 L2 es2 ep2 t2, Heap.SameBut a s.heap h2 → MSet P w h2 a L2 es2 ep2 t2 → L2.Perm L → Q () { s with heap := h2 }) : wpAny (model P w) A (setRelay a want) Q E s := by
  have zl := mrows_len row
  have M128 : M ≤ 127 := by rcases okM with e | e | e <;> omega
  obtain ⟨t2, order, lay, pm, tab, emask, eled, _, _⟩ := relaid_ok t (hs := es.map (·.1)) (wanted := want) (by rw [eM]; rfl) okM (by rw [Array.size_map, zl]; omega)
  rw [Array.size_map, zl] at pm
  obtain ⟨L2, row2, pm2, hs2⟩ := mrows_order row pm
  rw [← hs2] at tab
  have z2 : (order.filterMap (es[·]?)).size = es.size := by rw [mrows_len row2, pm2.length_eq, zl]
  rw [setRelay_eq]
  refine wpAny_bind (wpAny_setState_of ho hd (fits_of pz dm zm) ?_)
  dsimp only
  refine wp_if_neg (by rw [eM, sizeLine_eq]; omega) ?_
  try refine wpAny_bind (wpAny_pure ?_)
  rw [lay]
  dsimp only
  refine wpAny_bind (wp_if_neg (by rw [z2]; simp) ?_)
  try refine wpAny_bind (wpAny_pure ?_)
  refine wpAny_pure ?_
  dsimp only
  have but : Heap.SameBut a s.heap (s.heap.update a (Obj.putSet (order.filterMap (es[·]?)) t2)) := Heap.SameBut.update ..
  refine wpAny_storeSet_of ho hd (q _ L2 _ (ep + 1) t2 but ⟨⟨_, store_at ho hd, ⟨hex.1, hex.2.1, hex.2.2⟩, rfl⟩, row2, tab, (pm2.map (·.2)).nodup_iff.mpr uni, fun p hp => mt_apart (tup p (pm2.mem_iff.mp hp)) ho hd but, eled ▸ ord, ?_, by rw [pm2.length_eq]; exact few⟩ pm2) (by rw [z2, zl, sizeLine_eq]; omega)
  rw [pm2.length_eq, emask]; exact gap
theorem ms_add (R : MSet P w s.heap a L es ep t) {x : Addr} {k : List Key} (hx : MT P w s.heap k x) (hu : A.units < cLine) (more : L.length + 1 < 64) {Q : Bool → Shared → Prop}
    (q : ∀ b h2 L2 es2 ep2 t2, Heap.SameBut a s.heap h2 → MSet P w h2 a L2 es2 ep2 t2 → ((k ∈ L.map (·.2) ∧ L2 = L) ∨ (k ∉ L.map (·.2) ∧ L2.Perm ((x, k) :: L))) → Q b { s with heap := h2 }) :
    wpAny (model P w) A (setAddHashed a (.ref x) (mh P w k)) Q E s := by
  have ⟨o, ho, hex, hd⟩ := R.obj
  have g := R.gap
  have zl := R.len
  unfold setAddHashed
  refine wpAny_holding ?_
  rw [show 100000 = 99999 + 1 from rfl, setAddHashedIn_succ]
  refine wpAny_bind (wpAny_setState_of ho hd R.fit ?_)
  dsimp only
  refine wp_if_neg (by unfold byScan; simp [Value.scannable]) ?_
  try refine wpAny_bind (wpAny_pure ?_)
  refine wpAny_bind (ms_search R hx hu (fun hm => wpAny_pure (q false s.heap L es ep t (.refl _ _) R (.inl ⟨hm, rfl⟩))) fun N hm open_ shut => ?_)
  dsimp only
  refine wpAny_bind (wpAny_setState_of ho hd R.fit ?_)
  dsimp only
  obtain ⟨p1, p2, p3, p4, p5, p6, p7, p8, p9⟩ := R.tab.put open_ shut
  generalize hput : t.put (way t.mask (mh P w k) N) = u at p1 p3 p4 p5 p6 p7 p8 p9 ⊢
  obtain ⟨t1, pp⟩ := u
  dsimp only at p1 p3 p4 p5 p6 p7 p8 p9 ⊢
  subst p1
  generalize SetTable.below t.place (way t.mask (mh P w k) N) = j at p2 p3 ⊢
  have rowN : (SetTable.insertAt es j (mh P w k, Value.ref x)).toList = mrows P w (L.take j ++ (x, k) :: L.drop j) := by
    rw [SetTable.toList_insertAt, R.row]; simp [mrows]
  have tabN : mhs P w (L.take j ++ (x, k) :: L.drop j) = (mhs P w L).take j ++ mh P w k :: (mhs P w L).drop j := by simp [mhs]
  rw [← tabN] at p3
  have pm := put_perm L j (x, k)
  generalize SetTable.insertAt es j (mh P w k, Value.ref x) = es1 at rowN ⊢
  generalize L.take j ++ (x, k) :: L.drop j = L1 at rowN pm p3
  have zL1 : L1.length = L.length + 1 := pm.length_eq
  have zE1 : es1.size = L.length + 1 := (mrows_len rowN).trans zL1
  have uni1 : (L1.map (·.2)).Nodup := (pm.map (·.2)).nodup_iff.mpr (List.nodup_cons.mpr ⟨hm, R.uni⟩)
  have ord1 : w.params.followText "set-order" = true ∨ t1.led = true := p5 ▸ R.ord
  -- whatever the table's plainness
  have rest : ∀ t3 : SetTable, TabOk t3 (mhs P w L1) → t3.mask = t.mask → t3.led = t1.led → t3.fill = (mhs P w L).length + 1 → wpAny (model P w) A (do
      storeSet a es1 t3
      if (!false && t3.tooFull) = true then (do setRelay a (SetTable.grown (es.size + 1)); pure true) else pure true) Q E s := fun t3 tab3 m3 l3 f3 => by
    have but : Heap.SameBut a s.heap (s.heap.update a (Obj.putSet es1 t3)) := Heap.SameBut.update ..
    have at1 := store_at (es' := es1) (t' := t3) ho hd
    refine wpAny_bind (wpAny_storeSet_of ho hd ?_ (by rw [zE1, sizeLine_eq]; omega))
    generalize s.heap.update a (Obj.putSet es1 t3) = h1 at but at1 ⊢
    have tup1 : ∀ p ∈ L1, MT P w h1 p.2 p.1 := fun p hp => by
      rcases List.mem_cons.mp (pm.mem_iff.mp hp) with rfl | hp
      · exact mt_apart hx ho hd but
      · exact mt_apart (R.tup p hp) ho hd but
    have ord3 : w.params.followText "set-order" = true ∨ t3.led = true := l3 ▸ ord1
    have f4 : t3.fill = L.length + 1 := by rw [f3, List.length_map]
    by_cases full : t3.tooFull = true
    · have big : t3.mask * 3 ≤ (L.length + 1) * 5 := by
        unfold SetTable.tooFull at full
        rw [decide_eq_true_eq, f4] at full
        exact full
      have go : ∀ M, SetTable.sizeAbove (SetTable.grown (es.size + 1)) = M + 1 → MaskOk M → (L.length + 1) * 5 < M * 3 → wpAny (model P w) A (setRelay a (SetTable.grown (es.size + 1))) (fun _ s2 => wpAny (model P w) A (pure true) Q E s2) E { s with heap := h1 } := fun M eM okM gM => by
        refine ms_relay (s := { s with heap := h1 }) at1 ⟨hex.1, hex.2.1, hex.2.2⟩ rfl rowN ?_ tab3.dm ?_ uni1 tup1 ord3 (by rw [zL1]; exact more) eM okM (by rw [zL1]; exact gM) fun h2 L2 es2 ep2 t2 but2 R2 pm2 => wpAny_pure (q true h2 L2 es2 ep2 t2 (but.trans but2) R2 (.inr ⟨hm, pm2.trans pm⟩))
        · have z := tab3.sz
          rw [List.length_map, zL1] at z
          rw [z, zE1]
        · rw [zE1, m3]; omega
      refine wp_if_pos (by rw [full]; rfl) (wpAny_bind ?_)
      rcases R.tab.mok with e | e | e
      · rw [m3, e] at big
        rw [e] at g
        have : L.length = 4 := by omega
        exact go 31 (by rw [zl, this, size_20]) (.inr (.inl rfl)) (by omega)
      · rw [m3, e] at big
        rw [e] at g
        have : L.length = 18 := by omega
        exact go 127 (by rw [zl, this, size_76]) (.inr (.inr rfl)) (by omega)
      · rw [m3, e] at big; omega
    · refine wp_if_neg (by rw [Bool.not_eq_true] at full; rw [full]; decide) ?_
      refine wpAny_pure (q true h1 L1 es1 (ep + 1) t3 but ⟨⟨_, at1, ⟨hex.1, hex.2.1, hex.2.2⟩, rfl⟩, rowN, tab3, uni1, tup1, ord3, ?_, by rw [zL1]; exact more⟩ (.inr ⟨hm, pm⟩))
      unfold SetTable.tooFull at full
      rw [decide_eq_true_eq, f4] at full
      rw [zL1]; omega
  have fillN : t1.fill = (mhs P w L).length + 1 := p9
  have off : TabOk { t1 with plain := false } (mhs P w L1) := ⟨p3.ris, p3.dm, p3.sz, p3.mok, p3.bd, p3.reach⟩
  by_cases pl : t1.plain = true
  · refine wp_if_pos pl (wpAny_bind (mt_byv hx fun r => ?_))
    cases r
    · exact rest { t1 with plain := false } off p4 rfl fillN
    · exact rest t1 p3 p4 rfl fillN
  · refine wp_if_neg pl (wpAny_bind (wpAny_pure ?_))
    exact rest t1 p3 p4 rfl fillN
/-! ### set(list) -/
structure Fed (ks : List MK) (i : Nat) (L : List MK) : Prop where
  sub : ∀ p ∈ L, p ∈ ks.take i
  all : ∀ p ∈ ks.take i, p.2 ∈ L.map (·.2)
  len : L.length ≤ i
theorem Fed.step {ks L L2 : List MK} {i : Nat} {x : MK} (g : Fed ks i L) (h : ks[i]? = some x) (c : (x.2 ∈ L.map (·.2) ∧ L2 = L) ∨ (x.2 ∉ L.map (·.2) ∧ L2.Perm ((x.1, x.2) :: L))) : Fed ks (i + 1) L2 := by
  have e : ks.take (i + 1) = ks.take i ++ [x] := by rw [List.take_succ, h]; rfl
  have z := g.len
  rcases c with ⟨hm, rfl⟩ | ⟨hm, pm⟩
  · refine ⟨fun p hp => by rw [e]; exact List.mem_append.mpr (.inl (g.sub p hp)), fun p hp => ?_, by omega⟩
    rw [e] at hp
    rcases List.mem_append.mp hp with hp | hp
    · exact g.all p hp
    · rw [List.mem_singleton.mp hp]; exact hm
  · refine ⟨fun p hp => ?_, fun p hp => ?_, by rw [pm.length_eq]; exact Nat.succ_le_succ z⟩
    · rw [e]
      rcases List.mem_cons.mp (pm.mem_iff.mp hp) with rfl | hp
      · exact List.mem_append.mpr (.inr (.head _))
      · exact List.mem_append.mpr (.inl (g.sub p hp))
    · rw [e] at hp
      refine (pm.map (·.2)).mem_iff.mpr ?_
      rcases List.mem_append.mp hp with hp | hp
      · exact .tail _ (g.all p hp)
      · rw [List.mem_singleton.mp hp]; exact .head _
theorem mt_keep {h h2 : Heap} {k : List Key} {b : Addr} (x : MT P w h k b) (hk : ∀ c o, h.get? c = some o → h2.get? c = some o) : MT P w h2 k b := let ⟨o, its, n, h1, r⟩ := x; ⟨o, its, n, hk b o h1, r⟩
theorem MSet.keep {h h2 : Heap} (R : MSet P w h a L es ep t) (ha : ∀ o, h.get? a = some o → h2.get? a = some o) (tup : ∀ p ∈ L, MT P w h2 p.2 p.1) : MSet P w h2 a L es ep t := { R with obj := let ⟨o, h1, r⟩ := R.obj; ⟨o, ha o h1, r⟩, tup := tup }
abbrev newS (w : World) : Obj := { cls := .type "set", dict := none, data := .set #[] 0 (.fresh 0 0 (!w.params.followText "set-order")) }
theorem ms_new {h : Heap} (ho : h.get? a = some (newS w)) : MSet P w h a [] #[] 0 (.fresh 0 0 (!w.params.followText "set-order")) where
  obj := ⟨_, ho, ⟨rfl, rfl, rfl⟩, rfl⟩
  row := rfl
  tab := ⟨.nil, rfl, rfl, .inl rfl, fun _ h => (nomatch h), fun i q j h => (by simp at h)⟩
  uni := .nil
  tup := fun _ h => nomatch h
  ord := by
    cases e : w.params.followText "set-order"
    · exact .inr rfl
    · exact .inl rfl
  gap := (by decide : 0 * 5 < 7 * 3)
  few := (by decide : 0 < 64)
theorem ms_loop {I : Addr} {fp wr : List Addr} {G : Array GenState → Array GenState → Prop} {n : Nat} {Pv : Nat → Value → Prop} {St : Nat → Shared → Prop} {R : Result → Shared → Prop} (W : WalksS P w A.in1 I fp wr G n Pv St) {S : Addr} (out : S ∉ fp) (ks : List MK)
    (hn : n = ks.length) (few : ks.length < 64) (val : ∀ i v, Pv i v → ∃ p, ks[i]? = some p ∧ v = .ref p.1) (h0 : Heap) (tk : ∀ p ∈ ks, MT P w h0 p.2 p.1) (S0 : h0.get? S = none) (w0 : ∀ b ∈ wr, h0.get? b = none) (hu : A.in1.units < cLine) :
    ∀ (m i : Nat) (s : Shared), n = i + m → St i s → (∀ b o, h0.get? b = some o → s.heap.get? b = some o) → (∃ L es ep t, MSet P w s.heap S L es ep t ∧ Fed ks i L) →
      (∀ s2 L es ep t, Moved (S :: wr) G s s2 → MSet P w s2.heap S L es ep t → Fed ks n L → (∀ b o, h0.get? b = some o → s2.heap.get? b = some o) → R (.ok (.ret .none)) s2) →
      codeAny (model P w) A (.builtin "set.update.loop" ⟨[.ref S, .ref I], []⟩) R s := by
  have outw : S ∉ wr := fun h => out (W.sub _ h)
  have wider : ∀ b ∈ wr, b ∈ S :: wr := fun b hb => .tail _ hb
  have stay : ∀ {s1 s2 : Shared}, Moved wr G s1 s2 → (∀ b o, h0.get? b = some o → s1.heap.get? b = some o) → ∀ b o, h0.get? b = some o → s2.heap.get? b = some o := fun mv old b o e =>
    mv.heap b o (fun hb => by rw [w0 b hb] at e; cases e) (old b o e)
  intro m
  induction m with
  | zero =>
    rintro i s hi hst old ⟨L, es, ep, t, hS, fed⟩ q
    obtain rfl : n = i := hi
    refine codeAny_builtin F.entry_set_update_loop ?_
    rw [Around.under_plainId F.plain_set_update_loop _]
    show wpAny _ A.in1 (pyNext (.ref I) >>= _) _ _ s
    refine wpAny_bind (W.done s _ _ hst fun s2 mv => ?_)
    have old2 := stay mv old
    exact wpAny_pure (q s2 L es ep t (mv.mono wider) (hS.keep (fun o e => mv.heap S o outw e) fun p hp => mt_keep (tk p (List.mem_of_mem_take (fed.sub p hp))) old2) fed old2)
  | succ m ih =>
    rintro i s hi hst old ⟨L, es, ep, t, hS, fed⟩ q
    refine codeAny_builtin F.entry_set_update_loop ?_
    rw [Around.under_plainId F.plain_set_update_loop _]
    show wpAny _ A.in1 (pyNext (.ref I) >>= _) _ _ s
    refine wpAny_bind (W.item i s _ _ (by omega) hst fun v s2 hP hst2 mv => ?_)
    obtain ⟨p, hp, rfl⟩ := val i v hP
    have old2 := stay mv old
    have hS2 : MSet P w s2.heap S L es ep t := hS.keep (fun o e => mv.heap S o outw e) fun p hp => mt_keep (tk p (List.mem_of_mem_take (fed.sub p hp))) old2
    have hx : MT P w s2.heap p.2 p.1 := mt_keep (tk p (List.mem_of_getElem? hp)) old2
    have zi : i < ks.length := (List.getElem?_eq_some_iff.mp hp).1
    show wpAny _ A.in1 (holding [Value.ref p.1] (setAdd S (.ref p.1)) >>= _) _ _ s2
    refine wpAny_bind (wpAny_holding ?_)
    unfold setAdd
    refine wpAny_holding (wpAny_bind (wpAny_pyHash_tuple hu hx ?_))
    refine ms_add (s := { s2 with toks := s2.toks + (p.2.length + 1) }) hS2 hx hu (by have := fed.len; omega) fun b h3 L3 es3 ep3 t3 but hS3 c => ?_
    have old3 : ∀ b o, h0.get? b = some o → h3.get? b = some o := fun b o e => (but.2 b fun z => by rw [z, S0] at e; cases e).trans (old2 b o e)
    refine wpAny_pure ⟨plainId_quiet F.plain_set_update_loop _, ih (i + 1) _ (by omega) (W.frame _ s2 _ _ hst2 (Nat.le_add_right _ _) fun b hb o e => ?_) old3 ⟨L3, es3, ep3, t3, hS3, fed.step hp c⟩ fun s4 L4 es4 ep4 t4 mv4 hS4 fed4 old4 => ?_⟩
    · exact (but.2 b fun z => out (z ▸ hb)).trans e
    · refine q s4 L4 es4 ep4 t4 (Moved.trans W.gtrans ((mv.mono wider).then_heap (Nat.le_add_right _ _) fun b o hb e => ?_) mv4) hS4 fed4 old4
      exact (but.2 b fun z => hb (z ▸ List.mem_cons_self)).trans e
end
end DL

set_option Elab.async false
set_option linter.all false
set_option maxRecDepth 100000
set_option maxHeartbeats 8000000
/-! DLzh: set(list) and sorted(set(list)) of tuples of texts and ints. -/
namespace DL
open PySem PySem.Spec PyProof.Rows L2
section
variable {P : Program} {w : World} {A : Around} {E : Value → Shared → Prop} {s : Shared}
variable {a : Addr} {L : List MK} {es : Array (Int × Value)} {ep : Nat} {t : SetTable}
theorem ms_call {l : Addr} {items : Array Value} (ks : List MK) {Q : Value → Shared → Prop} (hh : A.handled = none) (hl : s.heap.IsList l items ∨ s.heap.IsTuple l items) (hit : items.toList = ks.map fun p => Value.ref p.1) (tk : ∀ p ∈ ks, MT P w s.heap p.2 p.1) (few : ks.length < 64) (hu : A.units + 3 < cLine)
    (q : ∀ (h2 : Heap) (t2 : Nat) L es ep t, MSet P w h2 s.heap.objs.size L es ep t → Fed ks ks.length L → (∀ b o, s.heap.get? b = some o → h2.get? b = some o) → Q (.ref s.heap.objs.size) { s with heap := h2, toks := t2 }) :
    wpAny (model P w) A (call (.type "set") [.ref l]) Q E s := by
  have zi : items.size = ks.length := by rw [← Array.length_toList, hit, List.length_map]
  obtain ⟨c, tl, hmro⟩ := F.called_set.mro
  have hmade := F.called_set.made
  have hsub := F.called_set.sub
  refine wpAny_call (codeAny_of_tree ?_)
  show wpAny _ _ (callAny (.type "set") _) _ _ _
  refine wpAny_pure ⟨Code.quiet_builtin _ (by decide +kernel), codeAny_builtin F.entry_type_call ?_⟩
  rw [Around.under_plain (weight_type_call_type "set" [.ref l] []) rfl]
  have f1 := F.called_set.notType
  have f2 := F.called_set.canCreate
  have f3 := F.typeCall_set_1 (.ref l)
  repeat (any_goals (first | assumption | wp_step))
  refine codeAny_mono (code_set_led1 (.ref l) (E := E) (Q₁ := fun ob s1 => ob = .ref s.heap.objs.size ∧ s1 = { s with heap := s.heap.push (newS w) }) ⟨rfl, rfl⟩) fun r s1 hr => ?_
  cases r with
  | error e => exact hr
  | ok fl =>
    cases fl with
    | ret ob =>
      obtain ⟨rfl, rfl⟩ := hr
      have got : (s.heap.push (newS w)).get? s.heap.objs.size = some (newS w) := Heap.get?_push_size _ rfl
      have isS : Shared.TypeIs { s with heap := s.heap.push (newS w) } (.ref s.heap.objs.size) "set" := ⟨_, got, rfl⟩
      have f4 := F.called_set.init.lookup
      have f5 := F.called_set.init.bind (.ref s.heap.objs.size)
      repeat (any_goals (first | assumption | wp_step))
      refine codeAny_mono (codeAny_call_builtin (R := wants (fun r s2 => r = .none ∧ ∃ h2 t2 L es ep t, s2 = { s with heap := h2, toks := t2 } ∧ MSet P w h2 s.heap.objs.size L es ep t ∧ Fed ks ks.length L ∧ ∀ b o, s.heap.get? b = some o → h2.get? b = some o) E)
        F.called_set.init.plain F.entry_set_init (check_set_init_1 isS ?_)) fun r s2 hr => ?_
      · obtain ⟨cn, hcn, odict, oslots, nl, hol⟩ : ∃ cn, (cn = "list" ∨ cn = "tuple") ∧ ∃ odict oslots nl, s.heap.get? l = some { cls := .type cn, dict := odict, data := .seq items nl, slots := oslots } := by
          rcases hl with ⟨⟨oc, od, oa, os2⟩, e1, e2, n, e3⟩ | ⟨⟨oc, od, oa, os2⟩, e1, e2, n, e3⟩ <;> dsimp only at e2 e3 <;> subst e2 e3
          · exact ⟨_, .inl rfl, _, _, _, e1⟩
          · exact ⟨_, .inr rfl, _, _, _, e1⟩
        have hol2 : (s.heap.push (newS w)).get? l = some { cls := .type cn, dict := odict, data := .seq items nl, slots := oslots } := Heap.get?_push_of_some _ hol
        have g1 : isSubtype (.type cn) (.type "set") = pure false := by
          rcases hcn with rfl | rfl
          · exact F.sub_list_set
          · exact F.sub_tuple_set
        have g2 : isSubtype (.type cn) (.type "frozenset") = pure false := by
          rcases hcn with rfl | rfl
          · exact F.sub_list_frozenset
          · exact F.sub_tuple_frozenset
        have g3 : (Value.type cn == Value.type "dict") = false := by
          rcases hcn with rfl | rfl <;> decide
        have ll : l < s.heap.objs.size := Heap.lt_size hol
        have hh3 : A.in1.in1.in1.handled = none := by simp [hh]
        have zp : (s.heap.push (newS w)).objs.size = s.heap.objs.size + 1 := Heap.size_push ..
        have far : l ≠ (s.heap.push (newS w)).objs.size := by rw [zp]; exact Nat.ne_of_lt (Nat.lt_succ_of_lt ll)
        have near : s.heap.objs.size ∉ [(s.heap.push (newS w)).objs.size, l] := by
          rw [zp]
          simp only [List.mem_cons, List.not_mem_nil, or_false, not_or]
          exact ⟨Nat.ne_of_lt (Nat.lt_succ_self _), Nat.ne_of_gt ll⟩
        have fresh : ∀ b, s.heap.objs.size ≤ b → s.heap.get? b = none := fun b hb => by
          cases e : s.heap.get? b with
          | none => rfl
          | some o => exact absurd (Heap.lt_size e) (Nat.not_lt.mpr hb)
        have val : ∀ (i : Nat) (v : Value), items[i]? = some v → ∃ p, ks[i]? = some p ∧ v = .ref p.1 := fun i v hv => by
          have e : items.toList[i]? = some v := by rw [Array.getElem?_toList]; exact hv
          rw [hit, List.getElem?_map] at e
          cases hk : ks[i]? with
          | none => rw [hk] at e; cases e
          | some p => rw [hk] at e; exact ⟨p, rfl, (Option.some.inj e).symm⟩
        have wrs : ∀ b ∈ [(s.heap.push (newS w)).objs.size], s.heap.get? b = none := fun b hb => fresh b (by rw [List.mem_singleton.mp hb, zp]; exact Nat.le_succ _)
        have start : ∀ ob : Obj, ∃ L es ep t, MSet P w ((s.heap.push (newS w)).push ob) s.heap.objs.size L es ep t ∧ Fed ks 0 L := fun ob => ⟨[], #[], 0, _, ms_new (Heap.get?_push_of_some _ got), ⟨fun _ h => (nomatch h), fun p h => (by simp at h), Nat.le_refl _⟩⟩
        unfold Builtin.«set.__init__» noKeywords Builtin.Frozenset.updateFrom
        generalize ePI : pyIter = PI
        wp_walk
        subst ePI
        rcases hcn with rfl | rfl
        · have hl2 : (s.heap.push (newS w)).IsList l items := ⟨_, hol2, rfl, nl, rfl⟩
          refine wpAny_pyIter_list hl2 (wpAny_bind (wpAny_runValue ?_))
          refine ms_loop ((Walks.list hh3 _ l far items).toS) (S := s.heap.objs.size) near ks zi few val s.heap tk (fresh _ (Nat.le_refl _)) wrs hu items.size 0 _ (by omega)
            ⟨⟨_, Heap.get?_push_size _ rfl, rfl, rfl⟩, (hl2.push _)⟩ (fun b o e => Heap.get?_push_of_some _ (Heap.get?_push_of_some _ e)) (start _) fun s3 L es ep t mv hS fed old => ?_
          obtain ⟨h3, gn, dr, t3, os3⟩ := s3
          obtain rfl : gn = s.gens := mv.gens
          obtain rfl : dr = s.drawn := mv.drawn
          obtain rfl : os3 = s.os := mv.os
          refine wpAny_pure ?_
          show wpAny _ _ (ret Value.none) _ _ _
          exact wpAny_pure ⟨rfl, h3, t3, L, es, ep, t, rfl, hS, zi ▸ fed, old⟩
        · have hl2 : (s.heap.push (newS w)).IsTuple l items := ⟨_, hol2, rfl, nl, rfl⟩
          refine wpAny_pyIter_tuple hl2 (wpAny_bind (wpAny_runValue ?_))
          refine ms_loop ((Walks.tuple hh3 _ l far items).toS) (S := s.heap.objs.size) near ks zi few val s.heap tk (fresh _ (Nat.le_refl _)) wrs hu items.size 0 _ (by omega)
            ⟨⟨_, Heap.get?_push_size _ rfl, rfl, rfl⟩, (hl2.at fun o e => Heap.get?_push_of_some _ e)⟩ (fun b o e => Heap.get?_push_of_some _ (Heap.get?_push_of_some _ e)) (start _) fun s3 L es ep t mv hS fed old => ?_
          obtain ⟨h3, gn, dr, t3, os3⟩ := s3
          obtain rfl : gn = s.gens := mv.gens
          obtain rfl : dr = s.drawn := mv.drawn
          obtain rfl : os3 = s.os := mv.os
          refine wpAny_pure ?_
          show wpAny _ _ (ret Value.none) _ _ _
          exact wpAny_pure ⟨rfl, h3, t3, L, es, ep, t, rfl, hS, zi ▸ fed, old⟩
      · cases r with
        | error e => exact hr
        | ok fl2 =>
          cases fl2 with
          | ret r =>
            obtain ⟨rfl, h2, t2, L, es, ep, t, rfl, hS, fed, old⟩ := hr
            repeat (any_goals (first | assumption | wp_step))
            exact q _ _ _ _ _ _ hS fed old
          | _ => exact hr.elim
    | _ => exact hr.elim
end
end DL

set_option Elab.async false
set_option linter.all false
set_option maxRecDepth 100000
set_option maxHeartbeats 8000000
/-! DLzi: the node sorted(set(xs)), xs a list or a tuple of tuples of texts and ints. -/
namespace DL
open PySem PySem.Spec PyProof.Rows L2
variable {K : PySem.W.Frag}
def MSet0 (P : Program) (w : World) (h : Heap) (a : Addr) (L : List MK) : Prop := ∃ (es : Array (Int × Value)) (ep : Nat) (t : SetTable), (∃ o, h.get? a = some o ∧ o.ExactSet ∧ o.data = .set es ep t) ∧ es.toList = mrows P w L ∧ TabOk t (mhs P w L) ∧ (L.map (·.2)).Nodup ∧
  (w.params.followText "set-order" = true ∨ t.led = true) ∧ L.length * 5 < t.mask * 3 ∧ L.length < 64
def SetMO (P : Program) (w : World) (a : Addr) (L : List MK) : HO := .ext fun h => MSet0 P w h a L
theorem MSet.bare {P : Program} {w : World} {h : Heap} {a : Addr} {L : List MK} {es : Array (Int × Value)} {ep : Nat} {t : SetTable} (R : MSet P w h a L es ep t) : MSet0 P w h a L := ⟨es, ep, t, R.obj, R.row, R.tab, R.uni, R.ord, R.gap, R.few⟩
theorem MSet0.whole {P : Program} {w : World} {h : Heap} {a : Addr} {L : List MK} (R : MSet0 P w h a L) (ht : ∀ p ∈ L, MT P w h p.2 p.1) : ∃ es ep t, MSet P w h a L es ep t := let ⟨es, ep, t, h1, h2, h3, h4, h5, h6, h7⟩ := R; ⟨es, ep, t, h1, h2, h3, h4, ht, h5, h6, h7⟩
theorem setMO_new {P : Program} {w : World} {H : Hp} {h : Heap} {a : Addr} {L : List MK} (R : MSet0 P w h a L) : ObjOk P w H h a (SetMO P w a L) := by
  have ⟨es, ep, t, ⟨o, ho, r⟩, q⟩ := R
  refine ⟨R, ⟨o, ho⟩, fun h1 h2 p k => ?_⟩
  obtain ⟨es2, ep2, t2, ⟨o2, ho2, r2⟩, q2⟩ := p
  exact ⟨es2, ep2, t2, ⟨o2, k o2 ho2, r2⟩, q2⟩
theorem ref_vals : ∀ {ks : List MK} {us : List Value}, Vals (ks.map fun p => V.ref p.1) us → us = ks.map fun p => Value.ref p.1
  | [], _, .nil => rfl
  | p :: ks, _, .cons r t => by cases r; rw [ref_vals t]; rfl
theorem vals_ref : ∀ ks : List MK, Vals (ks.map fun p => V.ref p.1) (ks.map fun p => Value.ref p.1)
  | [] => .nil
  | p :: ks => .cons rfl (vals_ref ks)
theorem perm_back {α β : Type} {f : α → β} {vs ws : List β} (pm : vs.Perm ws) : ∀ L : List α, ws = L.map f → ∃ L1 : List α, vs = L1.map f ∧ L1.Perm L := by
  induction pm with
  | nil => intro L e; exact ⟨L, e, .refl _⟩
  | cons x _ ih =>
    intro L e
    cases L with
    | nil => cases e
    | cons y L =>
      injection e with e1 e2
      obtain ⟨L1, e3, p⟩ := ih L e2
      exact ⟨y :: L1, by rw [List.map_cons, e1, e3], p.cons y⟩
  | swap x y l =>
    intro L e
    cases L with
    | nil => cases e
    | cons u L =>
      cases L with
      | nil => cases e
      | cons v L =>
        injection e with e1 e2
        injection e2 with e2 e3
        exact ⟨v :: u :: L, by rw [e1, e2, e3]; rfl, .swap u v L⟩
  | trans _ _ ih1 ih2 =>
    intro L e
    obtain ⟨L1, e1, p1⟩ := ih2 L e
    obtain ⟨L2, e2, p2⟩ := ih1 L1 e1
    exact ⟨L2, e2, p2.trans p1⟩
theorem nodup_le {α : Type} [DecidableEq α] : ∀ {L W : List α}, L.Nodup → (∀ x ∈ L, x ∈ W) → L.length ≤ W.length
  | [], _, _, _ => Nat.zero_le _
  | x :: L, W, nd, h => by
    obtain ⟨n1, n2⟩ := List.nodup_cons.mp nd
    have hx := h x (.head _)
    have := nodup_le (L := L) (W := W.erase x) n2 fun y hy => (List.mem_erase_of_ne (fun (e : y = x) => n1 (by rw [← e]; exact hy))).mpr (h y (.tail _ hy))
    rw [List.length_erase_of_mem hx] at this
    have := List.length_pos_of_mem hx
    rw [List.length_cons]
    omega
section
variable {X : Cx}
def rSetM (K : PySem.W.Frag) (P : Program) (w : World) : List V → Hp → VK → Prop := fun xs H Q => ∃ (l : Addr) (ks : List MK), xs = [V.ref l] ∧ (SqL K H l (ks.map fun p => V.ref p.1) ∨ SqT K H l (ks.map fun p => V.ref p.1)) ∧ (∀ p ∈ ks, SqT K H p.1 (p.2.map kV)) ∧ ks.length < 64 ∧
  ∀ a L, H a = none → (∀ p ∈ L, p ∈ ks) → (∀ p ∈ ks, p.2 ∈ L.map (·.2)) → (L.map (·.2)).Nodup → Q (.ref a) (upd H a (SetMO P w a L))
theorem cr_setM (hc : X.calm = true) (hu : X.A.units + 64 < cLine) : CallR X (.type "set") (rSetM X.K X.prog X.w) := by
  intro pins s σ H xs us Q I r h
  obtain ⟨l, ks, rfl, hl, hk, few, q⟩ := h
  rw [Vals.ref1 r]
  have hn : H s.heap.objs.size = none := I.hok.fresh (Nat.le_refl _)
  obtain ⟨its, rv, ob⟩ : ∃ its : List Value, Vals (ks.map fun p => V.ref p.1) its ∧ (s.heap.IsList l its.toArray ∨ s.heap.IsTuple l its.toArray) := by
    rcases hl with hl | hl
    · obtain ⟨its, rv, pl, _⟩ := I.list hl
      exact ⟨its, rv, .inl pl.isList⟩
    · obtain ⟨its, rv, ⟨o, e1, e2, n, e3⟩, _⟩ := I.tuple hl
      exact ⟨its, rv, .inr ⟨o, e1, e2, n, e3⟩⟩
  refine ms_call (P := X.prog) (w := X.w) ks (I.ok.hd hc) ob (by simpa using ref_vals rv) (fun p hp => key_sq I (hk p hp)) few (by omega) fun h2 tk L es ep t R fed old => ?_
  exact ⟨.ref s.heap.objs.size, upd H s.heap.objs.size (SetMO X.prog X.w s.heap.objs.size L), I.laid (t' := tk) old (Nat.le_refl _) (setMO_new R.bare), rfl, q _ L hn (fun p hp => List.mem_of_mem_take (fed.sub p hp)) (fun p hp => fed.all p (by rw [List.take_length]; exact hp)) R.uni⟩
theorem reps_keyT {H : Hp} : ∀ {L : List MK}, (∀ p ∈ L, SqT K H p.1 (p.2.map kV)) → Reps K H (L.map fun p => keyT p.2) (L.map fun p => V.ref p.1)
  | [], _ => .nil
  | p :: L, h => by
    rw [List.map_cons, List.map_cons]
    exact .cons (keyT_rep (h _ List.mem_cons_self)) (reps_keyT fun q hq => h q (List.mem_cons_of_mem _ hq))
theorem keyT_reps {H : Hp} : ∀ {L : List (List Key)} {vs : List V}, Reps K H (L.map keyT) vs → ∃ ks : List MK, vs = ks.map (fun p => V.ref p.1) ∧ ks.map (·.2) = L ∧ ∀ p ∈ ks, SqT K H p.1 (p.2.map kV)
  | [], _, h => by unfold Reps at h; subst h; exact ⟨[], rfl, rfl, fun _ h => nomatch h⟩
  | k :: L, _, h => by
    rw [List.map_cons] at h
    unfold Reps at h
    obtain ⟨v, r, rfl, h1, h2⟩ := h
    obtain ⟨ks, rfl, e, hk⟩ := keyT_reps h2
    obtain ⟨b, rfl, h3⟩ := keyT_val h1
    refine ⟨(b, k) :: ks, rfl, by rw [List.map_cons, e], fun p hp => ?_⟩
    rcases List.mem_cons.mp hp with rfl | hp
    · exact h3
    · exact hk p hp
theorem plains_mk : ∀ L : List MK, plains (L.map fun p => keyT p.2) = true
  | [] => rfl
  | p :: L => by
    show (plain (keyT p.2) && plains (L.map fun p => keyT p.2)) = true
    rw [plains_mk L]
    show (plains (p.2.map kD) && true) = true
    rw [plain_keys]; rfl
def rSortM (K : PySem.W.Frag) (P : Program) (w : World) : List V → Hp → VK → Prop := fun vs H Q => ∃ (a : Addr) (L : List MK), vs = [V.ref a] ∧ H a = some (SetMO P w a L) ∧ (∀ p ∈ L, SqT K H p.1 (p.2.map kV)) ∧ L.length < 64 ∧ PySem.W.AllAlike ((L.map fun p => keyT p.2).map py) ∧ (∀ p ∈ L, p.2 ≠ []) ∧ (∀ p ∈ L, (py (keyT p.2)).depth ≤ 60) ∧
  ∀ (L2 : List MK) (p : Addr) (ws : List V), L2.Perm L → Reps K H (sortD (L2.map fun q => keyT q.2)) ws → H p = none → Q (.ref p) (upd H p (.lst ws))
theorem cr_sortM (hc : X.calm = true) (hu : Ru X) : CallR X (.builtin "sorted") (rSortM X.K X.prog X.w) := by
  intro pins s σ H vs us Q I r h
  obtain ⟨a, L, rfl, ha, hk, few, al, ne, dp, q⟩ := h
  obtain ⟨es, ep, t, R⟩ := (show MSet0 X.prog X.w s.heap a L from (I.hok a _ ha).1).whole fun p hp => key_sq I (hk p hp)
  obtain ⟨o, ho, hex, hd⟩ := R.obj
  rw [Vals.ref1 r]
  refine Calls.call_function_entry PyProof.Rows.kind_sorted PyProof.Rows.plain_sorted PyProof.Rows.entry_sorted (PyProof.Rows.args_sorted1 _) ?_
  unfold Builtin.«sorted»
  refine wpAny_bind (m := checkCount "sorted" 1 1 _) (wpAny_pure ?_)
  have zl := R.len
  refine wpAny_bind (collect_set (A := X.A.in1) (I.ok.hd hc) ⟨o, ho, hex.1, hd⟩ R.fit (by unfold scanBound; omega) R.tab.ris R.ord fun s1 got old grow g1 o1 pm => ?_)
  have evs : es.toList.map (·.2) = L.map fun q => Value.ref q.1 := by rw [R.row, mrows, List.map_map]; rfl
  rw [evs] at pm
  obtain ⟨L1, e1, p1⟩ := perm_back (f := fun q : MK => Value.ref q.1) pm L rfl
  have zg : got.length ≤ sizeLine := by rw [e1, List.length_map, p1.length_eq, sizeLine_eq]; omega
  have rvs : Vals (L1.map fun x => V.ref x.1) got := by rw [e1]; exact vals_ref L1
  have hk1 : ∀ p ∈ L1, SqT X.K H p.1 (p.2.map kV) := fun p hp => hk p (p1.mem_iff.mp hp)
  have I1 : Inv X pins σ H s1 := I.call' (ch := []) o1 (Un.kept old) (I.hok.kept old) (by rw [g1]; exact I.bare) (fun _ z => nomatch z)
  obtain ⟨w1, w2⟩ := each_of I1 (reps_keyT hk1) rvs (plains_mk L1)
  refine wpAny_bind (wpAny_newList ?_ zg)
  have hoL : (s1.heap.push (seqObj "list" got.toArray 0)).get? s1.heap.objs.size = some (seqObj "list" got.toArray 0) := Heap.get?_push_size _ rfl
  show wpAny _ _ _ _ _ { s1 with heap := s1.heap.push (seqObj "list" got.toArray 0) }
  have er : PySem.W.EachIs (fun (v : Value) (d : D) => ∃ as, Reads (s1.heap.push (seqObj "list" got.toArray 0)) v (py d) as ∧ s1.heap.objs.size ∉ as) got (L1.map fun p => keyT p.2) := w2.mono fun v d h => by
    obtain ⟨as, r⟩ := h
    refine ⟨as, PyProof.Rows.Reads.keeps (fun b o e => Heap.get?_push_of_some _ e) r, fun hm => ?_⟩
    obtain ⟨ob, eb⟩ := reads_in r _ hm
    exact absurd (Heap.lt_size eb) (Nat.lt_irrefl _)
  have mem1 : ∀ x, x ∈ (L1.map fun p => keyT p.2).map py → x ∈ (L.map fun p => keyT p.2).map py := fun x hx => ((p1.map _).map _).mem_iff.mp hx
  have al1 : PySem.W.AllAlike ((L1.map fun p => keyT p.2).map py) := fun d hd d' hd' => al d (mem1 d hd) d' (mem1 d' hd')
  have so1 : PySem.W.Sortable ((L1.map fun p => keyT p.2).map py) := .inl fun d hd => by
    obtain ⟨x, hx, rfl⟩ := List.mem_map.mp hd
    obtain ⟨p, hp, rfl⟩ := List.mem_map.mp hx
    have := ne p (p1.mem_iff.mp hp)
    cases hk : p.2 with
    | nil => exact absurd hk this
    | cons k ks => exact ⟨py (kD k), pys (ks.map kD), by simp only [keyT, List.map_cons, py, pys]⟩
  have hu0 : ∀ b, b ∈ (L1.map fun p => keyT p.2) → X.A.in1.units + 1 + (py b).depth < cLine := fun b hb => by
    obtain ⟨p, hp, rfl⟩ := List.mem_map.mp hb
    have := hu
    have := dp p (p1.mem_iff.mp hp)
    show X.A.units + 1 + 1 + _ < cLine
    omega
  refine wpAny_bind (wpAny_holding (PySem.W.list_sort_data (s := { s1 with heap := s1.heap.push (seqObj "list" got.toArray 0) }) (R := fun (u : Value) (d : D) => ∃ v, RelV v u ∧ Rep X.K H d v) (enc := py) (bs := L1.map fun p => keyT p.2) hoL w1 er al1 so1 (by rw [List.length_map, p1.length_eq, sizeLine_eq]; omega) hu0 fun out hlen ho => ?_))
  obtain ⟨vs', y1, y2⟩ := of_each ho
  have hn : H s1.heap.objs.size = none := I1.hok.fresh (Nat.le_refl _)
  obtain ⟨c, hc'⟩ := PyProof.Rows.sortedHeap_at (vs := got) (out := out.toArray) hoL
  refine wpAny_pure ⟨_, rfl, .ref s1.heap.objs.size, upd H s1.heap.objs.size (.lst vs'), I1.laid (t' := s1.toks) (fun b u e => ?_) (Nat.le_refl _) ⟨by rw [y1.length, hlen, List.length_map, p1.length_eq, sizeLine_eq]; omega, out, c, y1, hc'⟩, rfl, q L1 _ vs' p1 y2 hn⟩
  have hb : b < s1.heap.objs.size := Heap.lt_size e
  rw [PyProof.Rows.sortedHeap_old (Nat.ne_of_lt hb) (by rw [size_push']; exact Nat.lt_succ_of_lt hb)]
  exact Heap.get?_push_of_some _ e
/-- tuples of texts and ints, each once, rising -/
def ssK : D → Mp → DQ → Prop := fun x M Q => ∃ L : List (List Key), seqD M x (L.map keyT) ∧ L.length < 64 ∧ PySem.W.AllAlike ((L.map keyT).map py) ∧ (∀ k ∈ L, k ≠ []) ∧ (∀ k ∈ L, (py (keyT k)).depth ≤ 60) ∧
  ∀ (L2 : List (List Key)) (p : Addr), L2.Nodup → (∀ k, k ∈ L2 ↔ k ∈ L) → M p = none → Q (.ref p) (up M p (.lst (sortD (L2.map keyT))))
theorem pd_ssK {a : Expr} {wa : WE} {p1 p2 pos1 pos : Pos} (hc : X.calm = true) (hu : Ru X) (hg : Gl X "sorted") (hm : X.mg "sorted" = none) (hg2 : Gl X "set") (hm2 : X.mg "set" = none) (ha : PE X a (tD X.K wa)) (hs : notStar a = true) :
    PE X (.Call (.Name "sorted" p1) [.Call (.Name "set" p2) [a] [] pos1] [] pos) (tD X.K (w1 ssK wa)) := by
  have h1 := pe_callTy (p := p2) (pos := pos1) (cr_setM hc (by have := hu; omega)) hg2 hm2 (by decide +kernel) (pa_cons ha pa_nil (star_of hs _ _)) (he := star_of hs _ _)
  refine (pe_callB (p := p1) (pos := pos) (cr_sortM hc hu) hg hm PyProof.Rows.boot_sorted (pa_cons h1 pa_nil)).imp fun σ H Q => ?_
  rintro ⟨ρ, M, F, Q0, s, q, g⟩
  refine ⟨ρ, M, F, _, s, q, fun x M1 v H1 q1 t1 f1 r1 p1 => ?_⟩
  obtain ⟨L, hx, few, al, ne, dp, q1⟩ := q1
  obtain ⟨l, ks, rfl, hob, ek, hk⟩ : ∃ (l : Addr) (ks : List MK), v = .ref l ∧ (SqL X.K H1 l (ks.map fun p => V.ref p.1) ∨ SqT X.K H1 l (ks.map fun p => V.ref p.1)) ∧ ks.map (·.2) = L ∧ ∀ p ∈ ks, SqT X.K H1 p.1 (p.2.map kV) := by
    rcases hx with rfl | ⟨a, rfl, e⟩
    · unfold Rep at p1
      obtain ⟨b, ws, rfl, h3, h4⟩ := p1
      obtain ⟨ks, rfl, e, hk⟩ := keyT_reps h4
      exact ⟨b, ks, rfl, .inr h3, e, hk⟩
    · cases p1
      obtain ⟨vs, e1, rr⟩ := r1 _ _ e
      obtain ⟨ks, rfl, e, hk⟩ := keyT_reps rr
      exact ⟨a, ks, rfl, .inl (.of e1), e, hk⟩
  have zk : ks.length = L.length := by rw [← ek, List.length_map]
  refine ⟨l, ks, rfl, hob, hk, by omega, fun b S hb hS1 hS2 hS3 => ?_⟩
  have tb : TupS X.K H1 (upd H1 b (SetMO X.prog X.w b S)) := .new hb
  have inL : ∀ p ∈ S, p.2 ∈ L := fun p hp => by rw [← ek]; exact List.mem_map_of_mem (hS1 p hp)
  have zS : S.length < 64 := by
    have z := nodup_le (L := S.map (·.2)) (W := L) hS3 fun x hx => by
      obtain ⟨p, hp, rfl⟩ := List.mem_map.mp hx
      exact inL p hp
    rw [List.length_map] at z
    omega
  refine ⟨b, S, rfl, upd_same, fun p hp => tb _ _ (hk p (hS1 p hp)), zS, fun d hd d' hd' => ?_, fun p hp => ne _ (inL p hp), fun p hp => dp _ (inL p hp), fun S' p ws hS' hws hp => ?_⟩
  · have up_ : ∀ d, d ∈ (S.map fun p => keyT p.2).map py → d ∈ (L.map keyT).map py := fun d hd => by
      obtain ⟨x, hx, rfl⟩ := List.mem_map.mp hd
      obtain ⟨p, hp, rfl⟩ := List.mem_map.mp hx
      exact List.mem_map_of_mem (List.mem_map_of_mem (inL p hp))
    exact al d (up_ d hd) d' (up_ d' hd')
  have tp : TupS X.K (upd H1 b (SetMO X.prog X.w b S)) (upd (upd H1 b (SetMO X.prog X.w b S)) p (.lst ws)) := .new hp
  have hp1 : H1 p = none := by
    by_cases e : p = b
    · rw [e]; exact hb
    · rw [upd_ne e] at hp; exact hp
  have m1 : RepM X.K (upd H1 b (SetMO X.prog X.w b S)) M1 := r1.more hb
  have f2 : Frm F H1 (upd H1 b (SetMO X.prog X.w b S)) M1 := (s.fr.next f1).more hb
  have mem : ∀ k, k ∈ S'.map (·.2) ↔ k ∈ L := fun k => by
    rw [(hS'.map (·.2)).mem_iff]
    constructor
    · intro h
      obtain ⟨q, hq, rfl⟩ := List.mem_map.mp h
      exact inL q hq
    · intro h
      rw [← ek] at h
      obtain ⟨q, hq, rfl⟩ := List.mem_map.mp h
      exact hS2 q hq
  have em : (S'.map fun q => keyT q.2) = (S'.map (·.2)).map keyT := by rw [List.map_map]; rfl
  rw [em] at hws
  exact g _ _ _ _ (q1 (S'.map (·.2)) p ((hS'.map (·.2)).nodup_iff.mpr hS3) mem (r1.none hp1)) ((t1.trans tb).trans tp) ((f1.trans f2).trans (((s.fr.next f1).next f2).new hp _)) (m1.new hp ⟨ws, upd_same, hws.stay tp⟩) rfl
end
end DL

set_option Elab.async false
set_option linter.all false
set_option maxRecDepth 100000
set_option maxHeartbeats 4000000
/-! DLzj: len(d), d a dict with texts or ints as keys. -/
namespace DL
open PySem PySem.Spec PyProof.Rows L2
section
variable {X : Cx}
def lenKS : Spec := fun ds M Q => ∃ a kvs, ds = [.ref a] ∧ M a = some (.dK kvs) ∧ Q (.int ((kvs.length : Nat) : Int)) M
theorem cd_lenK : CallR X (.builtin "len") (rDL X.K lenKS) := fun pins s σ H xs us Q I rv h => by
  obtain ⟨ds, M, F, Q0, r1, m, fr, ⟨a, kvs, rfl, e, q⟩, g⟩ := h
  obtain ⟨v, rfl, rr⟩ := r1.one
  cases rr
  rw [Vals.ref1 rv]
  obtain ⟨xs, e1, ps⟩ := m _ _ e
  obtain ⟨z, ns, vs, rel, dd⟩ := dk_of I.hok e1
  have zl : xs.length = vs.length := Paired.length rel
  have zk : kvs.length = xs.length := by
    have := congrArg List.length ps.keys
    simpa using this
  refine call_len_dict ns dd (by rw [← zl]; rw [sizeLine_eq] at z; omega) ?_
  rw [← zl, ← zk]
  exact ⟨.int ((kvs.length : Nat) : Int), H, I.tok _, ⟨_, rfl⟩, g _ M _ H q (.refl _) fr.frm m rfl⟩
end
end DL

set_option Elab.async false
set_option linter.all false
set_option maxRecDepth 100000
set_option maxHeartbeats 4000000
/-! DLzk: ==, != of an instance of an own class with a thing whose class is no lesser one. -/
namespace DL
open PySem PySem.Spec PyProof.Rows L2
section
variable {X : Cx} {k : Nat} {C : Addr} {S : Spec} {f : D → Mp → Bool}
/-- where f says so, a thing's class isn't asked first -/
structure NfM (k : Co) (C : Addr) (f : D → Mp → Bool) : Prop where
  ok : ∀ H M d v, RepM k.K H M → Rep k.K H d v → f d M = true → ∃ t, TyX k.K H v t ∧ PySem.W.notFirst k.K C t = true
def eqWD (C : Addr) (f : D → Mp → Bool) (S : Spec) (neg : Bool) : D → D → Mp → DQ → Prop := fun x y M Q => ∃ a fs, x = .ref a ∧ M a = some (.ins C fs) ∧ f y M = true ∧ S [x, y] M fun d M' => ∃ t, d = .bl t ∧ Q (.bl (negB neg t)) M'
theorem od_eqW (o : OwnM (co X) C "__eq__" S) (nf : NfM (co X) C f) : OpR X (compareOp .Eq) (rD X.K (eqWD C f S false)) := fun pins s σ H x y v u Q I rx ry h => by
  obtain ⟨n, f', fd, ps, F, hr, hb, hs, hf⟩ := o.ex
  obtain ⟨dx, dy, M, F', Q0, r1, r2, m, fr, ⟨a, fs, rfl, ha, hfy, h⟩, g⟩ := h
  obtain ⟨t, ty, hn⟩ := nf.ok H M dy y m r2 hfy
  cases r1
  obtain ⟨d1, vs, e1, _⟩ := m _ _ ha
  cases rx
  obtain ⟨mA, J, _⟩ := ins_get I.hok e1
  obtain ⟨od, J, _⟩ := J.look
  obtain ⟨P, Z, p, _⟩ := kit_of I ry ty
  obtain ⟨m1, hF⟩ := I.fr
  have hu : X.A.units < cLine := hr.units0
  show wpAny _ _ (richCompare .Eq _ _) _ _ _
  refine PySem.W.cmp_K (op := .Eq) (tb := t) hu hF I.ok.mod.kin J (Z.ty _ _ I.kIn p) hn hs hf ?_
  refine wpAny_mono (run_at F (hr.mono (Nat.le_succ _)) rfl hb I (vs := [.ref a, y]) (Q := fun v H' => ∃ t, v = .bl t ∧ Q (.bl t) H') (.cons rfl (.cons ry .nil)) ⟨[.ref a, dy], M, F', _, .cons rfl (.cons r2 .nil), m, fr, h, fun d M' v H' q t f r p => ?_⟩) (fun v s' q => ?_) fun _ _ z => z
  · obtain ⟨tt, rfl, q⟩ := q
    cases p
    exact ⟨tt, rfl, g _ M' _ H' q t f r rfl⟩
  · obtain ⟨v, H', I', rv, tt, rfl, q⟩ := q
    cases rv
    exact ⟨.bl tt, H', I', rfl, q⟩
theorem od_neW (o : OwnM (co X) C "__eq__" S) (o2 : NeM (co X) C) (nf : NfM (co X) C f) : OpR X (compareOp .NotEq) (rD X.K (eqWD C f S true)) := fun pins s σ H x y v u Q I rx ry h => by
  obtain ⟨n, f', fd, ps, F, hr, hb, hs, hf⟩ := o.ex
  obtain ⟨dx, dy, M, F', Q0, r1, r2, m, fr, ⟨a, fs, rfl, ha, hfy, h⟩, g⟩ := h
  obtain ⟨t, ty, hn⟩ := nf.ok H M dy y m r2 hfy
  cases r1
  obtain ⟨d1, vs, e1, _⟩ := m _ _ ha
  cases rx
  obtain ⟨mA, J, _⟩ := ins_get I.hok e1
  obtain ⟨od, J, _⟩ := J.look
  obtain ⟨P, Z, p, _⟩ := kit_of I ry ty
  have hu : X.A.units + 1 < cLine := by have := hr.un; have e : (co X).A.units = X.A.units := rfl; omega
  show wpAny _ _ (richCompare .NotEq _ _) _ _ _
  refine ne_own (tb := t) hu I.kIn J (Z.ty _ _ I.kIn p) hn o2.ne o2.ob hs hf ?_
  refine wpAny_mono (run_at F hr.in1 rfl hb I (vs := [.ref a, y]) (Q := fun v H' => ∃ t, v = .bl t ∧ Q (.bl (!t)) H') (.cons rfl (.cons ry .nil)) ⟨[.ref a, dy], M, F', _, .cons rfl (.cons r2 .nil), m, fr, h, fun d M' v H' q t f r p => ?_⟩) (fun v s' q => ?_) fun _ _ z => z
  · obtain ⟨tt, rfl, q⟩ := q
    cases p
    exact ⟨tt, rfl, g _ M' _ H' q t f r rfl⟩
  · obtain ⟨v, H', I', rv, tt, rfl, q⟩ := q
    cases rv
    exact ⟨tt, rfl, ⟨.bl (!tt), H', I', rfl, q⟩⟩
end
end DL

set_option Elab.async false
set_option linter.all false
set_option maxRecDepth 100000
set_option maxHeartbeats 4000000
/-! DLzl: caught exceptions as things: isinstance, fields. -/
namespace DL
open PySem PySem.Spec PyProof.Rows L2
/-- a thing's class, as isinstance asks it; a caught exception's, too -/
inductive TyY (K : PySem.W.Frag) (H : Hp) : V → Value → Prop where
  | x {v : V} {t : Value} (h : TyX K H v t) : TyY K H v t
  | exc {a C : Addr} {d : Option Addr} (e : H a = some (exH a C d)) (hd : ∀ dd, d = some dd → ∃ fs, H dd = some (.xd fs)) (hC : ExcC K C) : TyY K H (.ref a) (.ref C)
section
variable {X : Cx} {pins : List (Addr × Obj)} {σ : L2.St} {H : Hp} {s : Shared} {a C : Addr} {d : Option Addr}
theorem exc_inst (I : Inv X pins σ H s) (e : H a = some (exH a C d)) (hd : ∀ dd, d = some dd → ∃ fs, H dd = some (.xd fs)) : ∃ oe od, PySem.W.InstAt s.heap a oe C od := by
  obtain ⟨⟨oe, vs, h1, h2, h3, h4⟩, _⟩ := (show ObjOk X.prog X.w H s.heap a (exH a C d) from I.hok a _ e)
  cases d with
  | none => exact ⟨oe, none, h1, h2, by unfold PySem.W.notCls; rw [h4] <;> rfl, by rw [h3]; trivial⟩
  | some dd =>
    obtain ⟨fs, e2⟩ := hd dd rfl
    obtain ⟨mA, hns, _⟩ := (show ObjOk X.prog X.w H s.heap dd (.xd fs) from I.hok dd _ e2)
    obtain ⟨od, ho, _⟩ := lookIn_ns hns
    exact ⟨oe, some od, h1, h2, by unfold PySem.W.notCls; rw [h4] <;> rfl, by rw [h3]; exact ho⟩
theorem kit_ofY {x : V} {u t : Value} (I : Inv X pins σ H s) (rx : RelV x u) (ty : TyY X.K H x t) : ∃ P : Heap → Prop, PySem.W.KitX X.K u t P ∧ P s.heap ∧ u ≠ .builtin "__main__.__loader__#opaque" := by
  cases ty with
  | x h => exact kit_of I rx h
  | @exc a C d e hd hC =>
    cases (show u = Value.ref a from rx)
    obtain ⟨oe, od, J⟩ := exc_inst I e hd
    have hcl : (PySem.W.clsIn X.K C).isSome = true := by
      obtain ⟨cd, hc, _⟩ := PySem.W.any_some hC.hd
      rw [hc]; rfl
    exact ⟨_, PySem.W.kitx_exc hcl hC.hg hC.hk hC.hs hC.ha hC.hn hC.ht hC.hm, J, fun z => nomatch z⟩
def rIsiY (K : PySem.W.Frag) : List V → Hp → VK → Prop := fun xs H Q => ∃ (x c : V) (t u : Value) (b : Bool), xs = [x, c] ∧ ClsV c u ∧ TyY K H x t ∧ PySem.W.kitOne K t u = some b ∧ Q (.bl b) H
theorem call_isiY : CallR X (.builtin "isinstance") (rIsiY X.K) := by
  intro pins s σ H xs us Q I r h
  obtain ⟨x, c, t, u, b, rfl, k, ty, e, q⟩ := h
  obtain ⟨u1, u2, rfl, r1, r2⟩ := vals2 r
  have e2 := k.eq r2
  subst e2
  obtain ⟨P, Z, p, hx⟩ := kit_ofY I r1 ty
  exact PySem.W.kia_one Z I.kIn p e hx fun tk => ⟨.bl b, H, I.tok tk, rfl, q⟩
/-! ### fields -/
/-- a class of exceptions that have the field f -/
structure Xf (K : PySem.W.Frag) (C : Addr) (f : Str) : Prop where
  xf : XfC K C
  no : PySem.W.findIn K (.ref C) f = some none
def xfD (C : Addr) (f : Str) : D → Mp → DQ → Prop := fun x M Q => ∃ a dd fs d, x = .ref a ∧ M a = some (.exo C (some dd)) ∧ M dd = some (.exd fs) ∧ fs.lookup f = some d ∧ Q d M
variable {e : Expr} {te : TE} {pos : Pos} {n : Str}
theorem pe_xfH (T : Xf X.K C n) (he : PE X e te) (hb : attributeBase e n X.env (eval e X.env) = eval e X.env) :
    PE X (.Attribute e n pos) (fun σ H Q => te σ H fun x H1 => ∃ a dd fs v, x = .ref a ∧ H1 a = some (exH a C (some dd)) ∧ H1 dd = some (.xd fs) ∧ fs.lookup n = some v ∧ Q v H1) := by
  refine ⟨fun pins s σ H Q I h => ?_⟩
  refine attr_of hb (thn (he.run pins s σ H _ I h) fun u s1 hh => ?_)
  obtain ⟨x, H1, I1, rx, a, dd, fs, v, ex, e1, e2, l, q⟩ := hh
  subst ex
  obtain rfl : u = Value.ref a := rx
  obtain ⟨⟨oe, vs, h1, h2, h3, h4⟩, _⟩ := (show ObjOk X.prog X.w H1 s1.heap a (exH a C (some dd)) from I1.hok a _ e1)
  obtain ⟨mA, hns, hr⟩ := (show ObjOk X.prog X.w H1 s1.heap dd (.xd fs) from I1.hok dd _ e2)
  obtain ⟨od, ho, hl⟩ := lookIn_ns hns
  obtain ⟨u, hu, ru⟩ := RelO.some_of (v := v) (o := mA n) (by rw [← l]; exact hr n)
  have J : PySem.W.InstAt s1.heap a oe C (some od) := ⟨h1, h2, by unfold PySem.W.notCls; rw [h4] <;> rfl, by rw [h3]; exact ho⟩
  exact HandSPX.exc_get I1.kIn J T.xf.ga T.xf.gg T.xf.exC (PySem.W.findObj_own T.xf.hdC T.no rfl (by rw [hl, hu])) (handed_of ru) ⟨v, H1, I1.tok _, ru, q⟩
theorem pd_xf {a : Expr} {wa : WE} {f : Str} (T : Xf X.K C f) (ha : PE X a (tD X.K wa)) (hb : plainBase a = true) : PE X (.Attribute a f pos) (tD X.K (w1 (xfD C f) wa)) := (pe_xfH T ha (base_plain hb _ _ _)).imp fun σ H Q => by
  rintro ⟨ρ, M, F, Q0, s, q, g⟩
  refine ⟨ρ, M, F, _, s, q, fun x M1 v H1 q1 t1 f1 r1 p1 => ?_⟩
  obtain ⟨a, dd, fs, d, rfl, e1, e2, l, q1⟩ := q1
  cases p1
  obtain ⟨vs, e3, ps⟩ := r1 _ _ e2
  obtain ⟨v, l1, rv⟩ := ps.lookup l
  exact ⟨a, dd, vs, v, rfl, r1 _ _ e1, e3, l1, g _ M1 _ H1 q1 t1 f1 r1 rv⟩
end
end DL

set_option Elab.async false
set_option linter.all false
set_option maxRecDepth 100000
set_option maxHeartbeats 8000000
/-! DLi: a text as data: expressions; what they tell; that they do. -/
namespace DL
open PySem L2
/-! ### built-ins by their names -/
inductive Blt where | len | tuple | list | all | any | sum | max | min | abs | int | sorted | repr | dict | str
def Blt.isRepr : Blt → Bool | .repr => true | _ => false
def Blt.nm : Blt → Str
  | .len => "len" | .tuple => "tuple" | .list => "list" | .all => "all" | .any => "any" | .sum => "sum" | .max => "max" | .min => "min" | .abs => "abs" | .int => "int" | .sorted => "sorted" | .repr => "repr" | .dict => "dict" | .str => "str"
def Blt.spec : Blt → Spec
  | .len => lenS | .tuple => tupleS | .list => listS | .all => allS | .any => anyS | .sum => sumS | .max => maxS | .min => minS | .abs => absS | .int => intS | .sorted => sortedS | .repr => reprS | .dict => dictS | .str => strS
section
variable {X : Cx} {a b c : Expr} {wa wb wc : WE} {pos p : Pos}
theorem callB_pe {id : String} {S : Spec} {x : Str} {e : Expr} {es : List Expr} {u : WA} (hr : CallR X (.builtin id) (rDL X.K S)) (hv : bootBuiltins x = some (.builtin id)) (hn : x ≠ "__name__") (hdb : (x == ("__debug__" : Str)) = false) (hg : Gl X x) (hm : X.mg x = none) (ha : PA X (e :: es) (tDA X.K u)) (hs : (e :: es).all notStar = true) :
    PE X (.Call (.Name x p) (e :: es) [] pos) (tD X.K (wCall S u)) := by
  have hs' := hs
  rw [List.all_cons, Bool.and_eq_true] at hs'
  exact (pe_callB hr hg hm hv ha hn hdb (star_of hs'.1 _ _) (back_any hs'.2)).imp fun _ _ _ h => callB_of h
theorem callT_pe {T : String} {S : Spec} {x : Str} {e : Expr} {es : List Expr} {u : WA} (hr : CallR X (.type T) (rDL X.K S)) (hv : bootBuiltins x = some (.type T)) (hn : x ≠ "__name__") (hdb : (x == ("__debug__" : Str)) = false) (hg : Gl X x) (hm : X.mg x = none) (ha : PA X (e :: es) (tDA X.K u)) (hs : (e :: es).all notStar = true) :
    PE X (.Call (.Name x p) (e :: es) [] pos) (tD X.K (wCall S u)) := by
  have hs' := hs
  rw [List.all_cons, Bool.and_eq_true] at hs'
  exact (pe_callTy hr hg hm hv ha hn hdb (star_of hs'.1 _ _) (back_any hs'.2)).imp fun _ _ _ h => callB_of h
theorem Blt.pe (bl : Blt) {e : Expr} {es : List Expr} {u : WA} (hu : Ru X) (hc : X.calm = true) (hgd : bl.isRepr = true → X.A.guards = some []) (hg : Gl X bl.nm) (hm : X.mg bl.nm = none) (ha : PA X (e :: es) (tDA X.K u)) (hs : (e :: es).all notStar = true) : PE X (.Call (.Name bl.nm p) (e :: es) [] pos) (tD X.K (wCall bl.spec u)) := by
  cases bl
  · exact callB_pe cd_len PySem.boot_len (by decide) (by decide) hg hm ha hs
  · exact callT_pe cd_tuple PyProof.Rows.boot_tuple (by decide) (by decide) hg hm ha hs
  · exact callT_pe (cd_list hc) PyProof.Rows.boot_list (by decide) (by decide) hg hm ha hs
  · exact callB_pe (cd_all hc) (by decide +kernel) (by decide) (by decide) hg hm ha hs
  · exact callB_pe (cd_any hc) (by decide +kernel) (by decide) (by decide) hg hm ha hs
  · exact callB_pe (cd_sum hc) PyProof.Rows.boot_sum (by decide) (by decide) hg hm ha hs
  · exact callB_pe (cd_max hc) PyProof.Rows.boot_max (by decide) (by decide) hg hm ha hs
  · exact callB_pe (cd_min hc) PyProof.Rows.boot_min (by decide) (by decide) hg hm ha hs
  · exact callB_pe cd_abs (by decide +kernel) (by decide) (by decide) hg hm ha hs
  · exact callT_pe cd_int PyProof.Rows.boot_int (by decide) (by decide) hg hm ha hs
  · exact callB_pe (cd_sorted hu) PyProof.Rows.boot_sorted (by decide) (by decide) hg hm ha hs
  · exact callB_pe (cd_repr (hgd rfl) hu) (by decide +kernel) (by decide) (by decide) hg hm ha hs
  · exact callT_pe (cd_dict hc) (by decide +kernel) (by decide) (by decide) hg hm ha hs
  · exact callT_pe cd_str PyProof.Rows.boot_str (by decide) (by decide) hg hm ha hs
end
inductive Bm where | append | extend | join | index | popAt | count
def Bm.nm : Bm → Str | .append => "append" | .extend => "extend" | .join => "join" | .index => "index" | .popAt => "pop" | .count => "count"
def Bm.ty : Bm → String | .append => "list" | .extend => "list" | .join => "str" | .index => "list" | .popAt => "list" | .count => "list"
def Bm.spec : Bm → MSpec | .append => appendM | .extend => extendM | .join => joinM | .index => indexL | .popAt => popAtM | .count => countM
theorem Bm.pe (m : Bm) {X : Cx} (hu : Ru X) {a e : Expr} {es : List Expr} {wa : WE} {u : WA} {pos apos : Pos} (ho : PE X a (tD X.K wa)) (ha : PA X (e :: es) (tDA X.K u)) (hb : plainBase a = true) (hs : (e :: es).all notStar = true) (hl : (e :: es).length < 30) (hline : (apos.endLine == pos.line) = true) :
    PE X (.Call (.Attribute a m.nm apos) (e :: es) [] pos) (tD X.K (wBm m.ty m.spec wa u)) := by
  cases m
  · exact pd_bm PySem.F.plainAttrs_list PySem.F.slot_list_append PySem.F.type_list_append md_append ho ha hb hs hl hline
  · exact pd_bm PySem.F.plainAttrs_list PySem.F.slot_list_extend PySem.F.type_list_extend md_extend ho ha hb hs hl hline
  · exact pd_bm PySem.F.plainAttrs_str PySem.F.slot_str_join PySem.F.type_str_join md_join ho ha hb hs hl hline
  · exact pd_bm PySem.F.plainAttrs_list PySem.F.slot_list_index PySem.F.type_list_index (md_indexL hu) ho ha hb hs hl hline
  · exact pd_bm PySem.F.plainAttrs_list PySem.F.slot_list_pop PySem.F.type_list_pop md_popAt ho ha hb hs hl hline
  · exact pd_bm PySem.F.plainAttrs_list PySem.F.slot_list_count PySem.F.type_list_count (md_count hu) ho ha hb hs hl hline
/-! ### the text as data -/
/-- a class as isinstance is asked of -/
inductive Cl where | bty (x : String) | own (x : Str) (C : Addr)
mutual
inductive E where
  | var (i : Nat) | int (i : Int) | str (x : Str) | bl (b : Bool) | non
  | glob (x : Str) (d : D)
  | tup (es : Es) | lst (es : Es)
  | bin (o : Operator) (a b : E)
  | neg (a : E)
  | cmp (o : CmpOp) (a b : E)
  | chain (o o' : CmpOp) (a b c : E)
  | bop (o : BoolOp) (es : Es)
  | not_ (a : E)
  | ife (t a b : E)
  | idx (a b : E)
  | slc (a : E) (lo hi : Oe)
  | slS (n : Int) (a : E) (lo : Oe)
  | fld (a : E) (C : Addr) (f : Str)
  | isa (a : E) (c : Cl) (f : D → Mp → Option Bool)
  | bcall (b : Blt) (es : Es)
  | bm (m : Bm) (a : E) (es : Es)
  | call (x : Str) (S : Spec) (es : Es)
  | callK (x : Str) (S : Spec) (es : Es) (ks : List Str) (kes : Es)
  | lc (own : List (Str × Nat)) (g : Tg) (w : Wk) (t : Oe) (elt : E)
  | dc (kd : DcK) (own : List (Str × Nat)) (g : Tg) (w : Wk) (t : Oe) (kx vx : E)
  | big
  | cmpO (neg : Bool) (C : Addr) (S : Spec) (a b : E)
  | cmpW (neg : Bool) (C : Addr) (f : D → Mp → Bool) (S : Spec) (a b : E)
  | lenO (C : Addr) (S : Spec) (a : E)
  | dnew (kd : DcK)
  | inX (P : Program) (w : World) (neg : Bool) (a b : E)
  | getX (P : Program) (w : World) (a b : E)
  | sortX (a : E)
  | dcp (P : Program) (w : World) (a : E)
  | dlit (kvs : List (Key × D))
  | meth (C : Addr) (m : Str) (S : Spec) (a : E) (es : Es)
  | methK (C : Addr) (m : Str) (S : Spec) (ks : List Str) (a : E) (kes : Es)
  | popL (a : E)
  | popX (P : Program) (w : World) (a b : E)
  | rgC (t : Bool) (a : E)
  | ssI (a : E)
  | ssT (a : E)
  | ssK (a : E)
  | lenK (a : E)
  | minP (a : E)
  | dcM (a : E)
  | dcT (P : Program) (w : World) (a : E)
  | sortI (a : E)
  | sortT (a : E)
  | tupX (a : E)
  | ixX (a b : E)
  | rg2 (a b : E)
  | inRg (a b : E)
  | junk
  | know (A B : Addr) (a : E)
  | xf (a : E) (C : Addr) (f : Str)
  | zipL (a b : E)
  | zipT (a b : E)
  | itemsL (a : E)
  | updX (P : Program) (w : World) (a b : E)
  | rev (a : E)
  | lc2 (own : List (Str × Nat)) (g : Tg) (w : Wk) (t : Oe) (g1 : Tg) (w1 : Wk) (t1 : Oe) (elt : E)
inductive Es where
  | nil
  | cons (e : E) (es : Es)
inductive Oe where
  | none
  | some (e : E)
inductive Wk where
  | seq (e : E) | r1 (e : E) | r2 (a b : E) | zip (a b : E) | str (e : E) | enm (e : E) | zipM (a b : E)
end
def Es.len : Es → Nat
  | .nil => 0
  | .cons _ es => es.len + 1
def binF : Operator → D → D → Mp → DQ → Prop
  | .Add => addD
  | .Sub => intD (fun _ _ => True) fun i j => i - j
  | .Mult => mulD
  | .Mod => intD (fun _ j => 0 < j) fun i j => i % j
  | .FloorDiv => intD CDiv fun i j => i / j
  | .Pow => intD CPow fun i j => i ^ j.toNat
  | .LShift => intD CPow fun i j => i * 2 ^ j.toNat
  | .RShift => intD (fun _ j => 0 ≤ j) fun i j => i / 2 ^ j.toNat
  | .BitAnd => intD (fun _ _ => True) fun i j => PySem.Builtin.bitAnd i j
  | _ => fun _ _ _ _ => False
def cmpF : CmpOp → D → D → Mp → DQ → Prop
  | .Eq => eqD false | .NotEq => eqD true | .Lt => ordD .lt | .LtE => ordD .le | .Gt => ordD .gt | .GtE => ordD .ge
  | .Is => isD false | .IsNot => isD true | .In => inD false | .NotIn => inD true
theorem op_and' {X : Cx} : OpR X (binaryOp .BitAnd) (rI (fun _ _ => True) fun i j => .int (PySem.Builtin.bitAnd i j)) := fun pins s σ H x y v u Q I rx ry h => by
  obtain ⟨i, j, e1, e2, _, q⟩ := h
  exact op_and pins s σ H x y v u Q I rx ry ⟨i, j, e1, e2, q⟩
theorem binF_ok {X : Cx} (o : Operator) : OpR X (binaryOp o) (rD X.K (binF o)) := by
  cases o
  case Add => exact od_add
  case Sub => exact od_int op_sub'
  case Mult => exact od_mul
  case Mod => exact od_int op_mod
  case FloorDiv => exact od_int op_fdiv
  case Pow => exact od_int op_pow
  case LShift => exact od_int op_shl
  case RShift => exact od_int op_shr
  case BitAnd => exact od_int op_and'
  all_goals (intro pins s σ H x y v u Q I rx ry h; obtain ⟨_, _, _, _, _, _, _, _, _, z, _⟩ := h; exact z.elim)
theorem cmpF_ok {X : Cx} (hu : Ru X) (o : CmpOp) : OpR X (compareOp o) (rD X.K (cmpF o)) := by
  cases o
  · exact od_eq hu
  · exact od_ne hu
  · exact od_ord .lt hu
  · exact od_ord .le hu
  · exact od_ord .gt hu
  · exact od_ord .ge hu
  · exact od_is false
  · exact od_is true
  · exact od_in false hu
  · exact od_in true hu
def isaD (f : D → Mp → Option Bool) : D → Mp → DQ → Prop := fun x M Q => ∃ b, f x M = some b ∧ Q (.bl b) M
def negD : D → Mp → DQ → Prop := fun x M Q => ∃ i, x = .int i ∧ Q (.int (-i)) M
mutual
def E.wp : E → WE
  | .var i => wVar i
  | .int i => wC (.int i)
  | .str x => wC (.str x)
  | .bl b => wC (.bl b)
  | .non => wC .non
  | .glob _ d => wC d
  | .tup es => wTup es.wp
  | .lst es => wLst es.wp
  | .bin o a b => w2 (binF o) a.wp b.wp
  | .neg a => w1 negD a.wp
  | .cmp o a b => w2 (cmpF o) a.wp b.wp
  | .chain o o' a b c => w3 (cmpF o) (cmpF o') a.wp b.wp c.wp
  | .bop o es => es.wpV o
  | .not_ a => wNotV a.wp
  | .ife t a b => wIf t.wpT a.wp b.wp
  | .idx a b => w2 ixD a.wp b.wp
  | .slc a lo hi => wSl a.wp lo.wpO hi.wpO
  | .slS n a lo => wStep n a.wp lo.wpO
  | .fld a C f => w1 (fldD C f) a.wp
  | .isa a _ f => w1 (isaD f) a.wp
  | .bcall b es => wCall b.spec es.wp
  | .bm m a es => wBm m.ty m.spec a.wp es.wp
  | .call _ S es => wCall S es.wp
  | .callK _ S es _ kes => wCallK S es.wp kes.wp
  | .lc own g w t elt => wLc w.wp g t.wpT elt.wp (own.map (·.2))
  | .dc kd own g w t kx vx => wDc kd.emp w.wp g t.wpT kx.wp vx.wp (own.map (·.2))
  | .big => wC (.int potTop)
  | .cmpO neg C S a b => w2 (eqOD C S neg) a.wp b.wp
  | .cmpW neg C f S a b => w2 (eqWD C f S neg) a.wp b.wp
  | .lenO C S a => wCall (lenOS C S) (wCons a.wp wNil)
  | .dnew kd => wDnew kd
  | .inX P w neg a b => w2 (inX P w neg) a.wp b.wp
  | .getX P w a b => w2 (getX P w) a.wp b.wp
  | .sortX a => wCall sortXS (wCons a.wp wNil)
  | .dcp P w a => wCall (dcpS P w) (wCons a.wp wNil)
  | .dlit kvs => wDlit kvs
  | .meth C m S a es => wMeth C m S a.wp es.wp
  | .methK C m S _ a kes => wMeth C m S a.wp kes.wp
  | .popL a => wBm "list" popM a.wp wNil
  | .popX P w a b => wPopX P w a.wp b.wp
  | .rgC t a => w1 (rgD t) a.wp
  | .ssI a => w1 ssD a.wp
  | .ssT a => w1 ssT a.wp
  | .ssK a => w1 ssK a.wp
  | .lenK a => wCall lenKS (wCons a.wp wNil)
  | .minP a => wCall minPS (wCons a.wp wNil)
  | .dcM a => wCall dictMS (wCons a.wp wNil)
  | .dcT P w a => wCall (dictTS P w) (wCons a.wp wNil)
  | .sortI a => wCall sortIS (wCons a.wp wNil)
  | .sortT a => wCall sortTS (wCons a.wp wNil)
  | .tupX a => wCall tupXS (wCons a.wp wNil)
  | .ixX a b => wIxX a.wp (wCons b.wp wNil)
  | .rg2 a b => w2 rg2D a.wp b.wp
  | .inRg a b => w2 inRgD a.wp b.wp
  | .junk => fun _ _ _ => False
  | .know A B a => fun ρ M Q => A ≠ B → a.wp ρ M Q
  | .xf a C f => w1 (xfD C f) a.wp
  | .zipL a b => wZipL a.wp b.wp
  | .zipT a b => wZipLT a.wp b.wp
  | .itemsL a => wItemsL a.wp
  | .updX P w a b => wUpdX P w a.wp b.wp
  | .rev a => w1 revD a.wp
  | .lc2 own g w t g1 w1 t1 elt => wLc2 w.wp g t.wpT w1.wp g1 t1.wpT elt.wp (own.map (·.2)) g1.slots
def E.wpT : E → WT
  | .cmp o a b => wTest (w2 (cmpF o) a.wp b.wp)
  | .chain o o' a b c => wTest (w3 (cmpF o) (cmpF o') a.wp b.wp c.wp)
  | .bop o es => es.wpT o
  | .not_ a => wNot a.wpT
  | .ife t a b => wIfB t.wpT a.wpT b.wpT
  | .var i => wTru (wVar i)
  | .idx a b => wTru (w2 ixD a.wp b.wp)
  | .fld a C f => wTru (w1 (fldD C f) a.wp)
  | .isa a _ f => wTru (w1 (isaD f) a.wp)
  | .bcall b es => wTru (wCall b.spec es.wp)
  | .call _ S es => wTru (wCall S es.wp)
  | .bl b => wTru (wC (.bl b))
  | .cmpO neg C S a b => wTest (w2 (eqOD C S neg) a.wp b.wp)
  | .cmpW neg C f S a b => wTest (w2 (eqWD C f S neg) a.wp b.wp)
  | .inX P w neg a b => wTest (w2 (inX P w neg) a.wp b.wp)
  | .meth C m S a es => wTru (wMeth C m S a.wp es.wp)
  | _ => fun _ _ _ => False
def Es.wp : Es → WA
  | .nil => wNil
  | .cons e es => wCons e.wp es.wp
def Es.wpV (o : BoolOp) : Es → WE
  | .nil => fun _ _ _ => False
  | .cons e .nil => e.wp
  | .cons e es => match o with
    | .And => wAndV e.wp (es.wpV o)
    | .Or => wOrV e.wp (es.wpV o)
def Es.wpT (o : BoolOp) : Es → WT
  | .nil => fun _ _ _ => False
  | .cons e .nil => e.wpT
  | .cons e es => match o with
    | .And => wAnd e.wpT (es.wpT o)
    | .Or => wOr e.wpT (es.wpT o)
def Oe.wpO : Oe → WO
  | .none => wO0
  | .some e => wO1 e.wp
def Oe.wpT : Oe → WT
  | .none => wYes
  | .some e => e.wpT
def Wk.wp : Wk → WI
  | .seq e => wISeq e.wp
  | .r1 e => wIR1 e.wp
  | .r2 a b => wIR2 a.wp b.wp
  | .zip a b => wIZip a.wp b.wp
  | .zipM a b => wIMix a.wp b.wp
  | .str e => wIStr e.wp
  | .enm e => wIEn e.wp
end
/-! ### does a text look so -/
structure Sc where
  N : List Str
  sc : Scope
  fn : Str → Bool
def nmB (c : Sc) (i : Nat) (x : Str) : Bool := decide (c.N[i]? = some x) && ((match c.sc.names.lookup x with | some .local => true | some .cell => true | some .free => true | _ => false) && (!(x == ("__debug__" : Str)) && !(x == ("__classdict__" : Str))))
def glB (c : Sc) (x : Str) : Bool := decide (c.sc.names.lookup x = some .globalImplicit) && !(x == ("__debug__" : Str))
def tgB (c : Sc) (i : Nat) (x : Str) : Bool := decide (c.N[i]? = some x) && (match c.sc.names.lookup x with | some .local => true | some .cell => c.fn x | _ => false)
def Sc.blk (c : Sc) (scope : Scope) : Sc := ⟨c.N, relS scope c.sc, fun x => scope.names.lookup x == some .cell⟩
def asTuple : Expr → Bool | .Tuple _ _ _ => true | _ => false
def tyNames : List String := ["int", "bool", "str", "tuple", "list", "dict", "ValueError"]
mutual
def Tg.mt (c : Sc) : Tg → Expr → Bool
  | .name i, x => match x with
    | .Name y _ => tgB c i y
    | _ => false
  | .tup ts, x => match x with
    | .Tuple es _ _ => ts.mt c es
    | _ => false
def Tgs.mt (c : Sc) : Tgs → List Expr → Bool
  | .nil, xs => match xs with
    | [] => true
    | _ => false
  | .cons t ts, xs => match xs with
    | x :: xs => notStar x && (t.mt c x && ts.mt c xs)
    | [] => false
end
mutual
def E.mt (c : Sc) : E → Expr → Bool
  | .big, x => match x with
    | .Call (.Name n _) [.BinOp (.Constant (.str s1) _ _) .Add (.BinOp (.Constant (.str s2) _ _) .Mult (.Constant (.int i) _ _) _) _] [] _ => decide (n = "int") && (glB c n && (decide (s1 = "1") && (decide (s2 = "0") && decide (i = 900))))
    | _ => false
  | .cmpO neg _ _ a b, x => match x with
    | .Compare l [o'] [r] _ => decide ((if neg then CmpOp.NotEq else CmpOp.Eq) = o') && (a.mt c l && (b.mt c r && !behindInMarks (if neg then CmpOp.NotEq else CmpOp.Eq) r))
    | _ => false
  | .cmpW neg _ _ _ a b, x => match x with
    | .Compare l [o'] [r] _ => decide ((if neg then CmpOp.NotEq else CmpOp.Eq) = o') && (a.mt c l && (b.mt c r && !behindInMarks (if neg then CmpOp.NotEq else CmpOp.Eq) r))
    | _ => false
  | .lenO _ _ a, x => match x with
    | .Call (.Name n _) [l] [] _ => decide (n = "len") && (glB c n && (a.mt c l && notStar l))
    | _ => false
  | .dnew _, x => match x with
    | .Dict [] [] _ => true
    | _ => false
  | .inX _ _ neg a b, x => match x with
    | .Compare l [o'] [r] _ => decide ((if neg then CmpOp.NotIn else CmpOp.In) = o') && (a.mt c l && (b.mt c r && !behindInMarks (if neg then CmpOp.NotIn else CmpOp.In) r))
    | _ => false
  | .getX _ _ a b, x => match x with
    | .Subscript l r _ => a.mt c l && (b.mt c r && notSlice r)
    | _ => false
  | .dcp _ _ a, x => match x with
    | .Call (.Name n _) [l] [] _ => decide (n = "dict") && (glB c n && (a.mt c l && notStar l))
    | _ => false
  | .dlit kvs, x => match x with
    | .Dict xs ys _ => dlB kvs xs ys && dlitOk kvs
    | _ => false
  | .sortX a, x => match x with
    | .Call (.Name n _) [l] [] _ => decide (n = "sorted") && (glB c n && (a.mt c l && notStar l))
    | _ => false
  | .meth _ m _ a es, x => match x with
    | .Call (.Attribute l n ap) ys [] p => decide (n = m) && (a.mt c l && (es.mt c ys && (plainBase l && (decide (ys.length < 30) && (ap.endLine == p.line)))))
    | _ => false
  | .methK _ m _ ks a kes, x => match x with
    | .Call (.Attribute l n ap) [] kws p => decide (n = m) && (a.mt c l && (kes.mtK c kws && (decide (kwNames kws = ks.map some) && (plainBase l && (decide (kws.length < 20) && (ap.endLine == p.line))))))
    | _ => false
  | .popL a, x => match x with
    | .Call (.Attribute l n ap) [] [] p => decide (n = "pop") && (a.mt c l && (plainBase l && (ap.endLine == p.line)))
    | _ => false
  | .popX _ _ a b, x => match x with
    | .Call (.Attribute l n ap) [y] [] p => decide (n = "pop") && (a.mt c l && (b.mt c y && (plainBase l && (notStar y && (ap.endLine == p.line)))))
    | _ => false
  | .rev a, x => match x with
    | .Subscript l (.Slice none none (some (.UnaryOp .USub (.Constant (.int i) _ _) _)) _) _ => decide (i = 1) && a.mt c l
    | _ => false
  | .ssI a, x => match x with
    | .Call (.Name n _) [.Call (.Name m _) [y] [] _] [] _ => decide (n = "sorted") && (decide (m = "set") && (glB c n && (glB c m && (a.mt c y && notStar y))))
    | _ => false
  | .ssT a, x => match x with
    | .Call (.Name n _) [.Call (.Name m _) [y] [] _] [] _ => decide (n = "sorted") && (decide (m = "set") && (glB c n && (glB c m && (a.mt c y && notStar y))))
    | _ => false
  | .ssK a, x => match x with
    | .Call (.Name n _) [.Call (.Name m _) [y] [] _] [] _ => decide (n = "sorted") && (decide (m = "set") && (glB c n && (glB c m && (a.mt c y && notStar y))))
    | _ => false
  | .lenK a, x => match x with
    | .Call (.Name n _) [l] [] _ => decide (n = "len") && (glB c n && (a.mt c l && notStar l))
    | _ => false
  | .minP a, x => match x with
    | .Call (.Name n _) [l] [] _ => decide (n = "min") && (glB c n && (a.mt c l && notStar l))
    | _ => false
  | .dcM a, x => match x with
    | .Call (.Name n _) [l] [] _ => decide (n = "dict") && (glB c n && (a.mt c l && notStar l))
    | _ => false
  | .dcT _ _ a, x => match x with
    | .Call (.Name n _) [l] [] _ => decide (n = "dict") && (glB c n && (a.mt c l && notStar l))
    | _ => false
  | .sortI a, x => match x with
    | .Call (.Name n _) [l] [] _ => decide (n = "sorted") && (glB c n && (a.mt c l && notStar l))
    | _ => false
  | .sortT a, x => match x with
    | .Call (.Name n _) [l] [] _ => decide (n = "sorted") && (glB c n && (a.mt c l && notStar l))
    | _ => false
  | .tupX a, x => match x with
    | .Call (.Name n _) [l] [] _ => decide (n = "tuple") && (glB c n && (a.mt c l && notStar l))
    | _ => false
  | .ixX a b, x => match x with
    | .Call (.Attribute l n ap) [y] [] p => decide (n = "index") && (a.mt c l && (b.mt c y && (plainBase l && (notStar y && (ap.endLine == p.line)))))
    | _ => false
  | .itemsL a, x => match x with
    | .Call (.Name n _) [.Call (.Attribute l m ap) [] [] cp] [] _ => decide (n = "list") && (decide (m = "items") && (glB c n && (a.mt c l && (plainBase l && (ap.endLine == cp.line)))))
    | _ => false
  | .zipL a b, x => match x with
    | .Call (.Name n _) [.Call (.Name m _) [y, z] [] _] [] _ => decide (n = "list") && (decide (m = "zip") && (glB c n && (glB c m && (a.mt c y && (b.mt c z && (notStar y && notStar z))))))
    | _ => false
  | .zipT a b, x => match x with
    | .Call (.Name n _) [.Call (.Name m _) [y, z] [] _] [] _ => decide (n = "list") && (decide (m = "zip") && (glB c n && (glB c m && (a.mt c y && (b.mt c z && (notStar y && notStar z))))))
    | _ => false
  | .junk, _ => true
  | .know _ _ a, x => a.mt c x
  | .xf a _ f, x => match x with
    | .Attribute l g _ => decide (f = g) && (a.mt c l && plainBase l)
    | _ => false
  | .inRg a b, x => match x with
    | .Compare y [.In] [.Call (.Name m _) [z] [] _] _ => decide (m = "range") && (glB c m && (a.mt c y && (b.mt c z && notStar z)))
    | _ => false
  | .rg2 a b, x => match x with
    | .Call (.Name n _) [.Call (.Name m _) [y, z] [] _] [] _ => decide (n = "tuple") && (decide (m = "range") && (glB c n && (glB c m && (a.mt c y && (b.mt c z && (notStar y && notStar z))))))
    | _ => false
  | .updX _ _ a b, x => match x with
    | .Call (.Attribute l n ap) [y] [] p => decide (n = "update") && (a.mt c l && (b.mt c y && (plainBase l && (notStar y && (ap.endLine == p.line)))))
    | _ => false
  | .rgC t a, x => match x with
    | .Call (.Name n _) [.Call (.Name m _) [y] [] _] [] _ => decide (n = (if t = true then ("tuple" : Str) else ("list" : Str))) && (decide (m = "range") && (glB c n && (glB c m && (a.mt c y && notStar y))))
    | _ => false
  | .lc2 own g w t g1 w1 t1 elt, x => match x with
    | .ListComp el [⟨tg, iter, ifs, as⟩, ⟨tg1, iter1, ifs1, as1⟩] scope _ => decide (as = 0) && (decide (as1 = 0) && (blkC c.N c.sc scope own && (notSet iter && (notSet iter1 && (w.mt c tg iter && (g.mt (c.blk scope) tg && (t.mtI (c.blk scope) ifs && (w1.mt (c.blk scope) tg1 iter1 && (g1.mt (c.blk scope) tg1 && (t1.mtI (c.blk scope) ifs1 && (elt.mt (c.blk scope) el && ((g.slots.all fun j => (own.map (·.2)).contains j) && g1.slots.all fun j => (own.map (·.2)).contains j))))))))))))
    | _ => false
  | .dc _ own g w t kx vx, x => match x with
    | .DictComp kl vl [⟨tg, iter, ifs, as⟩] scope _ => decide (as = 0) && (blkC c.N c.sc scope own && (notSet iter && (w.mt c tg iter && (g.mt (c.blk scope) tg && (t.mtI (c.blk scope) ifs && (kx.mt (c.blk scope) kl && (vx.mt (c.blk scope) vl && g.slots.all fun j => (own.map (·.2)).contains j)))))))
    | _ => false
  | .var i, x => match x with
    | .Name y _ => nmB c i y
    | _ => false
  | .int i, x => match x with
    | .Constant (.int j) _ _ => decide (i = j)
    | _ => false
  | .str z, x => match x with
    | .Constant (.str j) _ _ => decide (z = j)
    | _ => false
  | .bl z, x => match x with
    | .Constant (.bool j) _ _ => decide (z = j)
    | _ => false
  | .non, x => match x with
    | .Constant .none _ _ => true
    | _ => false
  | .glob n _, x => match x with
    | .Name y _ => decide (n = y) && glB c n
    | _ => false
  | .tup es, x => match x with
    | .Tuple xs _ _ => es.mt c xs
    | _ => false
  | .lst es, x => match x with
    | .List xs _ => es.mt c xs
    | _ => false
  | .bin o a b, x => match x with
    | .BinOp l o' r _ => decide (o = o') && (a.mt c l && b.mt c r)
    | _ => false
  | .neg a, x => match x with
    | .UnaryOp .USub l _ => a.mt c l
    | _ => false
  | .cmp o a b, x => match x with
    | .Compare l [o'] [r] _ => decide (o = o') && (a.mt c l && (b.mt c r && !behindInMarks o r))
    | _ => false
  | .chain o p a b d, x => match x with
    | .Compare l [o', p'] [m, r] _ => decide (o = o') && (decide (p = p') && (a.mt c l && (b.mt c m && (d.mt c r && !lastMarks [o, p] [m, r]))))
    | _ => false
  | .bop o es, x => match x with
    | .BoolOp o' xs _ => decide (o = o') && es.mt c xs
    | _ => false
  | .not_ a, x => match x with
    | .UnaryOp .Not l _ => a.mt c l
    | _ => false
  | .ife t a b, x => match x with
    | .IfExp y l r _ => t.mt c y && (a.mt c l && b.mt c r)
    | _ => false
  | .idx a b, x => match x with
    | .Subscript l r _ => a.mt c l && (b.mt c r && notSlice r)
    | _ => false
  | .slc a lo hi, x => match x with
    | .Subscript l (.Slice p q none _) _ => a.mt c l && (lo.mt c p && hi.mt c q)
    | _ => false
  | .slS n a lo, x => match x with
    | .Subscript l (.Slice p none (some (.Constant (.int m) _ _)) _) _ => decide (m = n) && (decide (n ≠ 0) && (a.mt c l && lo.mt c p))
    | _ => false
  | .fld a _ f, x => match x with
    | .Attribute l g _ => decide (f = g) && (a.mt c l && plainBase l)
    | _ => false
  | .isa a k _, x => match x with
    | .Call (.Name n _) [l, .Name y _] [] _ => decide (n = "isinstance") && (glB c n && (a.mt c l && (notStar l && (glB c y && (match k with
      | .bty t => decide (y = Str.ofString t) && tyNames.contains t
      | .own z _ => decide (y = z))))))
    | _ => false
  | .bcall b es, x => match x with
    | .Call (.Name n _) (l :: ls) [] _ => decide (n = b.nm) && (glB c n && es.mt c (l :: ls))
    | _ => false
  | .bm m a es, x => match x with
    | .Call (.Attribute l n ap) (y :: ys) [] p => decide (n = m.nm) && (a.mt c l && (es.mt c (y :: ys) && (plainBase l && (decide ((y :: ys).length < 30) && (ap.endLine == p.line)))))
    | _ => false
  | .call n _ es, x => match x with
    | .Call (.Name y _) xs [] _ => decide (n = y) && (glB c n && es.mt c xs)
    | _ => false
  | .callK n _ es ks kes, x => match x with
    | .Call (.Name y _) xs kws _ => decide (n = y) && (glB c n && (es.mt c xs && (kes.mtK c kws && decide (kwNames kws = ks.map some))))
    | _ => false
  | .lc own g w t elt, x => match x with
    | .ListComp el [⟨tg, iter, ifs, as⟩] scope _ => decide (as = 0) && (blkC c.N c.sc scope own && (notSet iter && (w.mt c tg iter && (g.mt (c.blk scope) tg && (t.mtI (c.blk scope) ifs && (elt.mt (c.blk scope) el && g.slots.all fun j => (own.map (·.2)).contains j))))))
    | _ => false
def Es.mt (c : Sc) : Es → List Expr → Bool
  | .nil, xs => match xs with
    | [] => true
    | _ => false
  | .cons e es, xs => match xs with
    | x :: xs => notStar x && (e.mt c x && es.mt c xs)
    | [] => false
def Es.mtK (c : Sc) : Es → List Keyword → Bool
  | .nil, xs => match xs with
    | [] => true
    | _ => false
  | .cons e es, xs => match xs with
    | ⟨_, x, _⟩ :: xs => e.mt c x && es.mtK c xs
    | [] => false
def Oe.mt (c : Sc) : Oe → Option Expr → Bool
  | .none, x => match x with
    | none => true
    | _ => false
  | .some e, x => match x with
    | some y => e.mt c y
    | _ => false
def Oe.mtI (c : Sc) : Oe → List Expr → Bool
  | .none, x => match x with
    | [] => true
    | _ => false
  | .some e, x => match x with
    | [y] => e.mt c y
    | _ => false
def Wk.mt (c : Sc) : Wk → Expr → Expr → Bool
  | .enm e, tg, x => match x with
    | .Call (.Name n _) [y] [] _ => asTuple tg && (decide (n = "enumerate") && (glB c n && (notStar y && e.mt c y)))
    | _ => false
  | .seq e, _, x => e.mt c x
  | .str e, _, x => e.mt c x
  | .r1 e, _, x => match x with
    | .Call (.Name n _) [y] [] _ => decide (n = "range") && (glB c n && (notStar y && e.mt c y))
    | _ => false
  | .r2 a b, _, x => match x with
    | .Call (.Name n _) [y, z] [] _ => decide (n = "range") && (glB c n && (notStar y && (a.mt c y && (notStar z && b.mt c z))))
    | _ => false
  | .zip a b, tg, x => match x with
    | .Call (.Name n _) [y, z] [] _ => asTuple tg && (decide (n = "zip") && (glB c n && (notStar y && (a.mt c y && (notStar z && b.mt c z)))))
    | _ => false
  | .zipM a b, tg, x => match x with
    | .Call (.Name n _) [y, z] [] _ => asTuple tg && (decide (n = "zip") && (glB c n && (notStar y && (a.mt c y && (notStar z && b.mt c z)))))
    | _ => false
end
/-! ### what the text leans on -/
/-- a look at a thing's class -/
structure Isa (k : Co) (c : Cl) (f : D → Mp → Option Bool) : Prop where
  mi : k.mg "isinstance" = none
  cl : match c with | .bty x => k.mg (Str.ofString x) = none | .own x C => k.mg x = some (.ref C)
  ok : ∀ H M d v b, RepM k.K H M → Rep k.K H d v → f d M = some b → ∃ t, TyY k.K H v t ∧ PySem.W.kitOne k.K t (match c with | .bty x => .type x | .own _ C => .ref C) = some b
mutual
def E.ok (k : Co) : E → Prop
  | .glob x d => ∃ u v, k.mg x = some u ∧ RelV v u ∧ ∀ H, Rep k.K H d v
  | .tup es => es.ok k
  | .lst es => es.ok k
  | .bin _ a b => a.ok k ∧ b.ok k
  | .neg a => a.ok k
  | .cmp _ a b => a.ok k ∧ b.ok k
  | .chain _ _ a b d => a.ok k ∧ b.ok k ∧ d.ok k
  | .bop _ es => es.ok k
  | .not_ a => a.ok k
  | .ife t a b => t.ok k ∧ a.ok k ∧ b.ok k
  | .idx a b => a.ok k ∧ b.ok k
  | .slc a lo hi => a.ok k ∧ lo.ok k ∧ hi.ok k
  | .slS _ a lo => a.ok k ∧ lo.ok k
  | .fld a C f => Cf k.K C f ∧ a.ok k
  | .isa a c f => Isa k c f ∧ a.ok k
  | .bcall b es => k.mg b.nm = none ∧ (b.isRepr = true → k.A.guards = some []) ∧ es.ok k
  | .bm _ a es => a.ok k ∧ es.ok k
  | .call x S es => Callee k x es.len [] S ∧ es.ok k
  | .callK x S es ks kes => Callee k x es.len ks S ∧ kes.len = ks.length ∧ es.ok k ∧ kes.ok k
  | .lc _ _ w t elt => w.ok k ∧ t.ok k ∧ elt.ok k
  | .dc kd _ _ w t kx vx => (match kd with | .k => True | .t P w => P = k.prog ∧ w = k.w) ∧ w.ok k ∧ t.ok k ∧ kx.ok k ∧ vx.ok k
  | .big => k.mg "int" = none ∧ k.base.NoDigits
  | .cmpO neg C S a b => OwnM k C "__eq__" S ∧ (neg = true → NeM k C) ∧ a.ok k ∧ b.ok k
  | .cmpW neg C f S a b => OwnM k C "__eq__" S ∧ (neg = true → NeM k C) ∧ NfM k C f ∧ a.ok k ∧ b.ok k
  | .lenO C S a => k.mg "len" = none ∧ OwnM k C "__len__" S ∧ a.ok k
  | .dnew kd => (match kd with | .k => True | .t P w => P = k.prog ∧ w = k.w)
  | .inX P w _ a b => P = k.prog ∧ w = k.w ∧ a.ok k ∧ b.ok k
  | .getX P w a b => P = k.prog ∧ w = k.w ∧ a.ok k ∧ b.ok k
  | .sortX a => k.mg "sorted" = none ∧ a.ok k
  | .dcp P w a => k.mg "dict" = none ∧ P = k.prog ∧ w = k.w ∧ a.ok k
  | .dlit _ => True
  | .meth C m S a es => MethM k C m S ∧ a.ok k ∧ es.ok k
  | .methK C m S ks a kes => MethK k C m ks S ∧ kes.len = ks.length ∧ a.ok k ∧ kes.ok k
  | .popL a => a.ok k
  | .popX P w a b => P = k.prog ∧ w = k.w ∧ a.ok k ∧ b.ok k
  | .rev a => a.ok k
  | .ssI a => k.mg "sorted" = none ∧ k.mg "set" = none ∧ a.ok k
  | .ssT a => k.mg "sorted" = none ∧ k.mg "set" = none ∧ a.ok k
  | .ssK a => k.mg "sorted" = none ∧ k.mg "set" = none ∧ a.ok k
  | .lenK a => k.mg "len" = none ∧ a.ok k
  | .minP a => k.mg "min" = none ∧ a.ok k
  | .dcM a => k.mg "dict" = none ∧ a.ok k
  | .dcT P w a => k.mg "dict" = none ∧ P = k.prog ∧ w = k.w ∧ a.ok k
  | .sortI a => k.mg "sorted" = none ∧ a.ok k
  | .sortT a => k.mg "sorted" = none ∧ a.ok k
  | .tupX a => k.mg "tuple" = none ∧ a.ok k
  | .ixX a b => a.ok k ∧ b.ok k
  | .inRg a b => k.mg "range" = none ∧ a.ok k ∧ b.ok k
  | .junk => True
  | .know A B a => A ≠ B ∧ a.ok k
  | .xf a C f => Xf k.K C f ∧ a.ok k
  | .rg2 a b => k.mg "tuple" = none ∧ k.mg "range" = none ∧ a.ok k ∧ b.ok k
  | .zipT a b => k.mg "list" = none ∧ k.mg "zip" = none ∧ a.ok k ∧ b.ok k
  | .zipL a b => k.mg "list" = none ∧ k.mg "zip" = none ∧ a.ok k ∧ b.ok k
  | .itemsL a => k.mg "list" = none ∧ a.ok k
  | .updX P w a b => P = k.prog ∧ w = k.w ∧ a.ok k ∧ b.ok k
  | .rgC t a => k.mg (if t = true then "tuple" else "list") = none ∧ k.mg "range" = none ∧ a.ok k
  | .lc2 _ _ w t _ w1 t1 elt => w.ok k ∧ t.ok k ∧ w1.ok k ∧ t1.ok k ∧ elt.ok k
  | _ => True
def Es.ok (k : Co) : Es → Prop
  | .nil => True
  | .cons e es => e.ok k ∧ es.ok k
def Oe.ok (k : Co) : Oe → Prop
  | .none => True
  | .some e => e.ok k
def Wk.ok (k : Co) : Wk → Prop
  | .seq e => e.ok k
  | .str e => e.ok k
  | .r1 e => k.mg "range" = none ∧ e.ok k
  | .r2 a b => k.mg "range" = none ∧ a.ok k ∧ b.ok k
  | .zip a b => k.mg "zip" = none ∧ a.ok k ∧ b.ok k
  | .zipM a b => k.mg "zip" = none ∧ a.ok k ∧ b.ok k
  | .enm e => k.mg "enumerate" = none ∧ e.ok k
end
end DL

set_option Elab.async false
set_option linter.all false
set_option maxRecDepth 100000
set_option maxHeartbeats 8000000
/-! DLj: expressions do as they tell. -/
namespace DL
open PySem L2
structure Gd (c : Sc) (X : Cx) : Prop where
  n : X.N = c.N
  nd : X.N.Nodup
  sc : X.env.scope = c.sc
  fn : X.fn = c.fn
  calm : X.calm = true
  ru : Ru X
theorem band {a b : Bool} (h : (a && b) = true) : a = true ∧ b = true := Bool.and_eq_true_iff.mp h
theorem bnot {a : Bool} (h : (!a) = true) : a = false := by cases a <;> first | rfl | cases h
section
variable {c : Sc} {X : Cx}
theorem Gd.gl (g : Gd c X) {x : Str} (h : glB c x = true) : Gl X x ∧ (x == ("__debug__" : Str)) = false := by
  obtain ⟨h1, h2⟩ := band h
  refine ⟨?_, bnot h2⟩
  show X.env.scope.names.lookup x = _
  rw [g.sc]
  exact of_decide_eq_true h1
theorem Gd.var (g : Gd c X) {i : Nat} {x : Str} {p : Pos} (h : nmB c i x = true) : PE X (.Name x p) (tVar i) := by
  obtain ⟨h1, h2⟩ := band h
  obtain ⟨h2, h3⟩ := band h2
  obtain ⟨h3, h4⟩ := band h3
  refine pe_var (by rw [g.n]; exact of_decide_eq_true h1) ?_ (bnot h3) (bnot h4)
  unfold Vis
  rw [g.sc]
  split at h2
  · rename_i e; exact .inl e
  · rename_i e; exact .inr (.inl e)
  · rename_i e; exact .inr (.inr e)
  · cases h2
theorem Gd.name (g : Gd c X) {i : Nat} {x : Str} {p : Pos} (h : tgB c i x = true) : PG X (.Name x p) (gName i) := by
  obtain ⟨h1, h2⟩ := band h
  have e1 : X.N[i]? = some x := by rw [g.n]; exact of_decide_eq_true h1
  split at h2
  · rename_i e
    exact pg_name g.nd e1 (.inl (by rw [g.sc]; exact e)) (.inr (by rw [g.sc]; exact e))
  · rename_i e
    exact pg_name g.nd e1 (.inr (by rw [g.sc]; exact e)) (.inl (by rw [g.fn]; exact h2))
  · cases h2
theorem Gd.blk (g : Gd c X) {s : Shared} {H : Hp} {scope : Scope} {cl : List (Str × Addr)} {C : Addr} {fp : List Addr} : Gd (c.blk scope) (X.blk s H scope (compEnvC scope cl C X.env) fp) :=
  ⟨g.n, g.nd, by show relS scope X.env.scope = _; rw [g.sc]; rfl, rfl, g.calm, g.ru⟩
theorem asg_each {x : Expr} (h : notStar x = true) (xs : List Expr) (env : Env) : (assignEach (x :: xs) env).map (·.2) = assign x env :: (assignEach xs env).map (·.2) := by
  cases x <;> first | rfl | cases h
theorem asg_len {env : Env} : ∀ {xs : List Expr}, xs.all notStar = true → (assignEach xs env).length = xs.length ∧ (assignEach xs env).findIdx? (·.1) = none
  | [], _ => ⟨rfl, rfl⟩
  | x :: xs, h => by
    rw [List.all_cons] at h
    obtain ⟨h1, h2⟩ := band h
    obtain ⟨a1, a2⟩ := asg_len (env := env) h2
    have e : assignEach (x :: xs) env = (false, assign x env) :: assignEach xs env := by cases x <;> first | rfl | cases h1
    rw [e]
    refine ⟨by rw [List.length_cons, a1]; rfl, ?_⟩
    rw [List.findIdx?_cons]
    simp [a2]
mutual
theorem Tg.snd (g : Gd c X) : ∀ (t : Tg) (x : Expr), t.mt c x = true → PG X x (gD X.K t)
  | .name i, x, h => by
    unfold Tg.mt at h
    split at h
    · exact pgd_name (g.name h)
    · cases h
  | .tup ts, x, h => by
    unfold Tg.mt at h
    split at h
    · obtain ⟨h1, h2, h3⟩ := Tgs.snd g ts _ h
      obtain ⟨a1, a2⟩ := asg_len (env := X.env) h2
      exact pgd_tup g.calm h1 (by rw [a1, h3]) a2
    · cases h
theorem Tgs.snd (g : Gd c X) : ∀ (t : Tgs) (x : List Expr), t.mt c x = true → PGs X x (gDs X.K t) ∧ x.all notStar = true ∧ x.length = t.len
  | .nil, x, h => by
    unfold Tgs.mt at h
    split at h
    · exact ⟨pgds_nil, rfl, rfl⟩
    · cases h
  | .cons t ts, x, h => by
    unfold Tgs.mt at h
    split at h
    · obtain ⟨h1, h2⟩ := band h
      obtain ⟨h2, h3⟩ := band h2
      obtain ⟨a1, a2, a3⟩ := Tgs.snd g ts _ h3
      refine ⟨pgds_cons (Tg.snd g t _ h2) a1 (asg_each h1 _ _), by rw [List.all_cons, h1, a2]; rfl, ?_⟩
      rw [List.length_cons, a3]
      rfl
    · cases h
end
theorem negd : UnR X (unaryOp .USub) (rD1 X.K negD) := fun pins s σ H x v Q I rx h => by
  obtain ⟨dx, M, F, Q0, r1, m, fr, ⟨i, rfl, hq⟩, g⟩ := h
  cases r1
  exact un_neg pins s σ H _ v Q I rx ⟨i, rfl, g _ M _ H hq (.refl _) fr.frm m rfl⟩
/-- isinstance -/
theorem isa_pe {f : D → Mp → Option Bool} {cl : Cl} {a : Expr} {wa : WE} {y : Str} {pos p p2 : Pos} (k : Isa (co X) cl f) (ha : PE X a (tD X.K wa)) (hs : notStar a = true) (hg : Gl X "isinstance") (hgy : Gl X y ∧ (y == ("__debug__" : Str)) = false)
    (hy : match cl with | .bty t => y = Str.ofString t ∧ tyNames.contains t = true | .own z _ => y = z) : PE X (.Call (.Name "isinstance" p) [a, .Name y p2] [] pos) (tD X.K (w1 (isaD f) wa)) := by
  have fin : ∀ (cv : V) (u : Value), ClsV cv u → (∀ H M d v b, RepM X.K H M → Rep X.K H d v → f d M = some b → ∃ t, TyY X.K H v t ∧ PySem.W.kitOne X.K t u = some b) → PE X (.Name y p2) (tC cv) → PE X (.Call (.Name "isinstance" p) [a, .Name y p2] [] pos) (tD X.K (w1 (isaD f) wa)) := by
    intro cv u hcl hok hpe
    refine (pe_callB call_isiY hg k.mi PyProof.Rows.boot_isinstance (pa_cons ha (pa_cons hpe pa_nil) (star_of hs _ _)) (by decide) (by decide) (star_of hs _ _) rfl).imp fun σ H Q => ?_
    rintro ⟨ρ, M, F, Q0, s, q, g⟩
    refine ⟨ρ, M, F, _, s, q, fun x M1 v H1 q1 t1 f1 r1 p1 => ?_⟩
    obtain ⟨b, e, q1⟩ := q1
    obtain ⟨t, ty, kt⟩ := hok H1 M1 x v b r1 p1 e
    exact ⟨v, cv, t, u, b, rfl, hcl, ty, kt, g _ M1 _ H1 q1 t1 f1 r1 rfl⟩
  cases cl with
  | own z C =>
    obtain rfl : y = z := hy
    have km : X.mg y = some (.ref C) := k.cl
    exact fin (.ref C) (.ref C) (.own C) k.ok (pe_glob hgy.1 km rfl hgy.2)
  | bty t =>
    obtain ⟨hy, ht⟩ : y = Str.ofString t ∧ tyNames.contains t = true := hy
    subst hy
    have km : X.mg (Str.ofString t) = none := k.cl
    have hb : bootBuiltins (Str.ofString t) = some (.type t) ∧ Str.ofString t ≠ "__name__" := by
      have e : t = "int" ∨ t = "bool" ∨ t = "str" ∨ t = "tuple" ∨ t = "list" ∨ t = "dict" ∨ t = "ValueError" := by
        simpa [tyNames] using ht
      rcases e with rfl | rfl | rfl | rfl | rfl | rfl | rfl
      · exact ⟨PyProof.Rows.boot_int, by decide⟩
      · exact ⟨PyProof.Rows.boot_bool, by decide⟩
      · exact ⟨PyProof.Rows.boot_str, by decide⟩
      · exact ⟨PyProof.Rows.boot_tuple, by decide⟩
      · exact ⟨PyProof.Rows.boot_list, by decide⟩
      · exact ⟨PyProof.Rows.boot_dict, by decide⟩
      · exact ⟨PyProof.Rows.Boot.«ValueError», by decide⟩
    exact fin (.ty t) (.type t) (.ty t) k.ok (pe_bltn hgy.1 km hb.1 rfl hb.2 hgy.2)
theorem call_case {n : Str} {S : Spec} {es : Es} {xs : List Expr} {p pos : Pos} (hx : Callee (co X) n es.len [] S) (g : Gd c X) (h2 : glB c n = true) (h3 : es.mt c xs = true) (a1 : PA X xs (tDN X.K es.len es.wp)) (a2 : xs.all notStar = true) : PE X (.Call (.Name n p) xs [] pos) (tD X.K (wCall S es.wp)) := by
  obtain ⟨g1, g2⟩ := g.gl h2
  cases xs with
  | nil =>
    cases es with
    | nil => unfold Es.wp; exact pd_call0 hx g.calm g1 g2
    | cons e es => unfold Es.mt at h3; cases h3
  | cons z zs => exact pd_call hx g.calm g1 g2 a1 a2
theorem meth_case {C : Addr} {m : Str} {S : Spec} {a : Expr} {wa : WE} {es : Es} {ys : List Expr} {ap p : Pos} (hM : MethM (co X) C m S) (ho : PE X a (tD X.K wa)) (he : PA X ys (tDN X.K es.len es.wp) ∧ ys.all notStar = true) (hm : es.mt c ys = true) (hb : plainBase a = true) (hl : ys.length < 30) (hline : (ap.endLine == p.line) = true) :
    PE X (.Call (.Attribute a m ap) ys [] p) (tD X.K (wMeth C m S wa es.wp)) := by
  cases ys with
  | nil =>
    cases es with
    | nil => unfold Es.wp; exact pd_meth0 hM ho hb hline
    | cons e r => unfold Es.mt at hm; cases hm
  | cons y ys => exact pd_methA hM ho (pdn_a he.1) hb he.2 hl hline
theorem callK_case {n : Str} {S : Spec} {es kes : Es} {ks : List Str} {xs : List Expr} {kws : List Keyword} {p pos : Pos} (hx : Callee (co X) n es.len ks S) (g : Gd c X) (h2 : glB c n = true) (h3 : es.mt c xs = true) (a1 : PA X xs (tDN X.K es.len es.wp)) (a2 : xs.all notStar = true)
    (a3 : PK X kws (tDN X.K ks.length kes.wp)) (hk : kwNames kws = ks.map some) : PE X (.Call (.Name n p) xs kws pos) (tD X.K (wCallK S es.wp kes.wp)) := by
  obtain ⟨g1, g2⟩ := g.gl h2
  cases xs with
  | nil =>
    cases es with
    | nil =>
      have e0 : Es.nil.wp = wNil := by unfold Es.wp; rfl
      rw [e0]; exact pd_callK0 hx g.calm g1 g2 a3 hk
    | cons e es => unfold Es.mt at h3; cases h3
  | cons z zs => exact pd_callK hx g.calm g1 g2 a1 a2 a3 hk
theorem big_pe {p1 p2 p3 p4 p5 p6 pos : Pos} {k1 k2 k3 : Nat} (hm : X.mg "int" = none) (hd : X.base.NoDigits) (hg : Gl X "int") : PE X (.Call (.Name "int" p1) [.BinOp (.Constant (.str "1") k1 p2) .Add (.BinOp (.Constant (.str "0") k2 p3) .Mult (.Constant (.int 900) k3 p4) p5) p6] [] pos) (tD X.K (wC (.int potTop))) := by
  have m0 : OpR X (binaryOp .Mult) (rD X.K fun x y M Q => x = .str "0" ∧ y = .int 900 ∧ Q (.str (Txt.mul "0" 900)) M) := fun pins s σ H x y v u Q I rx ry h => by
    obtain ⟨dx, dy, M, F, Q0, r1, r2, m, fr, ⟨rfl, rfl, h⟩, g⟩ := h
    cases r1; cases r2
    exact op_mul_str pins s σ H _ _ v u Q I rx ry ⟨rfl, rfl, g _ M _ H h (.refl _) fr.frm m rfl⟩
  have c0 : ∀ {z : PySem.Str} {k : Nat} {p : Pos}, PE X (.Constant (.str z) k p) (tD X.K (wC (.str z))) := pd_c pe_str fun H => by unfold Rep; rfl
  have c1 : ∀ {z : Int} {k : Nat} {p : Pos}, PE X (.Constant (.int z) k p) (tD X.K (wC (.int z))) := pd_c pe_int fun H => by unfold Rep; rfl
  have s0 := pd_bin (pos := p6) od_add (c0 (z := "1") (k := k1) (p := p2)) (pd_bin (pos := p5) m0 (c0 (z := "0") (k := k2) (p := p3)) (c1 (z := 900) (k := k3) (p := p4)))
  refine (pe_callTy (cd_big hd) hg hm PyProof.Rows.boot_int (pa_cons s0 pa_nil (star_of rfl _ _)) (by decide) (by decide) (star_of rfl _ _) rfl).imp fun σ H Q => ?_
  rintro ⟨ρ, M, F, Q0, s, q, g⟩
  refine ⟨ρ, M, F, fun x M1 => x = .str bigT ∧ Q0 (.int potTop) M1, s, ?_, fun x M1 v H1 q1 t1 f1 r1 p1 => ?_⟩
  · refine ⟨rfl, rfl, ?_, rfl, q⟩
    show ("1" : PySem.Str).length + (Txt.mul "0" 900).length ≤ sizeLine
    rw [bigL, sizeLine_eq]
    decide
  · obtain ⟨rfl, q1⟩ := q1
    cases p1
    exact ⟨rfl, g _ M1 _ H1 q1 t1 f1 r1 rfl⟩
theorem never_t {x : Expr} : PT X x (tDT X.K fun _ _ _ => False) := ⟨fun pins s σ H Q I h => by
  obtain ⟨_, _, _, _, _, z, _⟩ := h
  exact z.elim⟩
theorem never_e {x : Expr} : PE X x (tD X.K fun _ _ _ => False) := ⟨fun pins s σ H Q I h => by
  obtain ⟨_, _, _, _, _, z, _⟩ := h
  exact z.elim⟩
theorem never_w {x : Expr} : PW X x (tDT X.K fun _ _ _ => False) := ⟨fun wh pins s σ H Q I h => by
  obtain ⟨_, _, _, _, _, z, _⟩ := h
  exact z.elim⟩
end
mutual
theorem E.snd : ∀ (e : E) {c : Sc} {X : Cx} (x : Expr), Gd c X → e.ok (co X) → e.mt c x = true → PE X x (tD X.K e.wp)
  | .var i, c, X, x, g, ok, h => by
    unfold E.mt at h
    split at h
    · unfold E.wp; exact pd_var (x := "") (g.var h)
    · cases h
  | .int i, c, X, x, g, ok, h => by
    unfold E.mt at h
    split at h
    · obtain rfl := of_decide_eq_true h
      unfold E.wp; exact pd_c pe_int fun H => by unfold Rep; rfl
    · cases h
  | .str i, c, X, x, g, ok, h => by
    unfold E.mt at h
    split at h
    · obtain rfl := of_decide_eq_true h
      unfold E.wp; exact pd_c pe_str fun H => by unfold Rep; rfl
    · cases h
  | .bl i, c, X, x, g, ok, h => by
    unfold E.mt at h
    split at h
    · obtain rfl := of_decide_eq_true h
      unfold E.wp; exact pd_c pe_bl fun H => by unfold Rep; rfl
    · cases h
  | .non, c, X, x, g, ok, h => by
    unfold E.mt at h
    split at h
    · unfold E.wp; exact pd_c pe_non fun H => by unfold Rep; rfl
    · cases h
  | .glob n d, c, X, x, g, ok, h => by
    unfold E.mt at h
    split at h
    · obtain ⟨h1, h2⟩ := band h
      obtain rfl := of_decide_eq_true h1
      unfold E.ok at ok
      obtain ⟨u, v, hm, r, hr⟩ := ok
      obtain ⟨g1, g2⟩ := g.gl h2
      unfold E.wp; exact pd_c (pe_glob g1 hm r g2) hr
    · cases h
  | .tup es, c, X, x, g, ok, h => by
    unfold E.mt at h
    split at h
    · unfold E.ok at ok
      unfold E.wp; exact pd_tup (pdn_a (Es.snd es _ g ok h).1)
    · cases h
  | .lst es, c, X, x, g, ok, h => by
    unfold E.mt at h
    split at h
    · unfold E.ok at ok
      unfold E.wp; exact pd_lst (pdn_a (Es.snd es _ g ok h).1)
    · cases h
  | .bin o a b, c, X, x, g, ok, h => by
    unfold E.mt at h
    split at h
    · obtain ⟨h1, h2⟩ := band h
      obtain ⟨h2, h3⟩ := band h2
      obtain rfl := of_decide_eq_true h1
      unfold E.ok at ok
      unfold E.wp; exact pd_bin (binF_ok o) (E.snd a _ g ok.1 h2) (E.snd b _ g ok.2 h3)
    · cases h
  | .neg a, c, X, x, g, ok, h => by
    unfold E.mt at h
    split at h
    · unfold E.ok at ok
      unfold E.wp; exact pd_un negd (E.snd a _ g ok h)
    · cases h
  | .cmp o a b, c, X, x, g, ok, h => by
    unfold E.mt at h
    split at h
    · obtain ⟨h1, h2⟩ := band h
      obtain ⟨h2, h3⟩ := band h2
      obtain ⟨h3, h4⟩ := band h3
      obtain rfl := of_decide_eq_true h1
      unfold E.ok at ok
      unfold E.wp; exact pd_cmp (cmpF_ok g.ru o) (E.snd a _ g ok.1 h2) (E.snd b _ g ok.2 h3) (bnot h4)
    · cases h
  | .chain o p a b d, c, X, x, g, ok, h => by
    unfold E.mt at h
    split at h
    · obtain ⟨h1, h2⟩ := band h
      obtain ⟨h2, h3⟩ := band h2
      obtain ⟨h3, h4⟩ := band h3
      obtain ⟨h4, h5⟩ := band h4
      obtain ⟨h5, h6⟩ := band h5
      obtain rfl := of_decide_eq_true h1
      obtain rfl := of_decide_eq_true h2
      unfold E.ok at ok
      unfold E.wp; exact pd_chain (cmpF_ok g.ru o) (cmpF_ok g.ru p) (E.snd a _ g ok.1 h3) (E.snd b _ g ok.2.1 h4) (E.snd d _ g ok.2.2 h5) (bnot h6)
    · cases h
  | .bop o es, c, X, x, g, ok, h => by
    unfold E.mt at h
    split at h
    · obtain ⟨h1, h2⟩ := band h
      obtain rfl := of_decide_eq_true h1
      unfold E.ok at ok
      unfold E.wp; exact Es.sndV es _ g ok h2
    · cases h
  | .not_ a, c, X, x, g, ok, h => by
    unfold E.mt at h
    split at h
    · unfold E.ok at ok
      unfold E.wp; exact pd_not (E.snd a _ g ok h)
    · cases h
  | .ife t a b, c, X, x, g, ok, h => by
    unfold E.mt at h
    split at h
    · obtain ⟨h1, h2⟩ := band h
      obtain ⟨h2, h3⟩ := band h2
      unfold E.ok at ok
      unfold E.wp; exact pd_if (E.sndT t _ g ok.1 h1) (E.snd a _ g ok.2.1 h2) (E.snd b _ g ok.2.2 h3)
    · cases h
  | .idx a b, c, X, x, g, ok, h => by
    unfold E.mt at h
    split at h
    · obtain ⟨h1, h2⟩ := band h
      obtain ⟨h2, h3⟩ := band h2
      unfold E.ok at ok
      unfold E.wp; exact pd_ix (E.snd a _ g ok.1 h1) (E.snd b _ g ok.2 h2) (ix_plain h3)
    · cases h
  | .slc a lo hi, c, X, x, g, ok, h => by
    unfold E.mt at h
    split at h
    · obtain ⟨h1, h2⟩ := band h
      obtain ⟨h2, h3⟩ := band h2
      unfold E.ok at ok
      unfold E.wp; exact pd_slice (E.snd a _ g ok.1 h1) (Oe.snd lo _ g ok.2.1 h2) (Oe.snd hi _ g ok.2.2 h3)
    · cases h
  | .slS n a lo, c, X, x, g, ok, h => by
    unfold E.mt at h
    split at h
    · obtain ⟨h1, h2⟩ := band h
      obtain ⟨h2, h3⟩ := band h2
      obtain ⟨h3, h4⟩ := band h3
      obtain rfl := of_decide_eq_true h1
      unfold E.ok at ok
      unfold E.wp; exact pd_stepL (of_decide_eq_true h2) (E.snd a _ g ok.1 h3) (Oe.snd lo _ g ok.2 h4)
    · cases h
  | .fld a C f, c, X, x, g, ok, h => by
    unfold E.mt at h
    split at h
    · obtain ⟨h1, h2⟩ := band h
      obtain ⟨h2, h3⟩ := band h2
      obtain rfl := of_decide_eq_true h1
      unfold E.ok at ok
      unfold E.wp; exact pd_fld ok.1 (E.snd a _ g ok.2 h2) h3
    · cases h
  | .isa a k f, c, X, x, g, ok, h => by
    unfold E.mt at h
    split at h
    · obtain ⟨h1, h2⟩ := band h
      obtain ⟨h2, h3⟩ := band h2
      obtain ⟨h3, h4⟩ := band h3
      obtain ⟨h4, h5⟩ := band h4
      obtain ⟨h5, h6⟩ := band h5
      obtain rfl := of_decide_eq_true h1
      unfold E.ok at ok
      unfold E.wp
      refine isa_pe ok.1 (E.snd a _ g ok.2 h3) h4 (g.gl h2).1 (g.gl h5) ?_
      cases k with
      | bty t =>
        obtain ⟨h6, h7⟩ := band h6
        exact ⟨of_decide_eq_true h6, h7⟩
      | own z C => exact of_decide_eq_true h6
    · cases h
  | .bcall b es, c, X, x, g, ok, h => by
    unfold E.mt at h
    split at h
    · obtain ⟨h1, h2⟩ := band h
      obtain ⟨h2, h3⟩ := band h2
      obtain rfl := of_decide_eq_true h1
      unfold E.ok at ok
      obtain ⟨a1, a2⟩ := Es.snd es _ g ok.2.2 h3
      unfold E.wp; exact b.pe g.ru g.calm ok.2.1 (g.gl h2).1 ok.1 (pdn_a a1) a2
    · cases h
  | .bm m a es, c, X, x, g, ok, h => by
    unfold E.mt at h
    split at h
    · obtain ⟨h1, h2⟩ := band h
      obtain ⟨h2, h3⟩ := band h2
      obtain ⟨h3, h4⟩ := band h3
      obtain ⟨h4, h5⟩ := band h4
      obtain ⟨h5, h6⟩ := band h5
      obtain rfl := of_decide_eq_true h1
      unfold E.ok at ok
      obtain ⟨a1, a2⟩ := Es.snd es _ g ok.2 h3
      unfold E.wp; exact m.pe g.ru (E.snd a _ g ok.1 h2) (pdn_a a1) h4 a2 (of_decide_eq_true h5) h6
    · cases h
  | .call n S es, c, X, x, g, ok, h => by
    unfold E.mt at h
    split at h
    · obtain ⟨h1, h2⟩ := band h
      obtain ⟨h2, h3⟩ := band h2
      obtain rfl := of_decide_eq_true h1
      unfold E.ok at ok
      obtain ⟨a1, a2⟩ := Es.snd es _ g ok.2 h3
      unfold E.wp; exact call_case ok.1 g h2 h3 a1 a2
    · cases h
  | .callK n S es ks kes, c, X, x, g, ok, h => by
    unfold E.mt at h
    split at h
    · obtain ⟨h1, h2⟩ := band h
      obtain ⟨h2, h3⟩ := band h2
      obtain ⟨h3, h4⟩ := band h3
      obtain ⟨h4, h5⟩ := band h4
      obtain rfl := of_decide_eq_true h1
      unfold E.ok at ok
      obtain ⟨a1, a2⟩ := Es.snd es _ g ok.2.2.1 h3
      have a3 := Es.sndK kes _ g ok.2.2.2 h4
      rw [ok.2.1] at a3
      unfold E.wp; exact callK_case ok.1 g h2 h3 a1 a2 a3 (of_decide_eq_true h5)
    · cases h
  | .big, c, X, x, g, ok, h => by
    unfold E.mt at h
    split at h
    · obtain ⟨h1, h2⟩ := band h
      obtain ⟨k2, k3⟩ := band h2
      obtain ⟨h3, k4⟩ := band k3
      obtain ⟨h4, h5⟩ := band k4
      clear h h2 k3 k4
      obtain rfl := of_decide_eq_true h1
      obtain rfl := of_decide_eq_true h3
      obtain rfl := of_decide_eq_true h4
      obtain rfl := of_decide_eq_true h5
      unfold E.ok at ok
      unfold E.wp; exact big_pe ok.1 ok.2 (g.gl k2).1
    · cases h
  | .cmpO neg C S a b, c, X, x, g, ok, h => by
    unfold E.mt at h
    split at h
    · obtain ⟨h1, j2⟩ := band h
      obtain ⟨h2, j3⟩ := band j2
      obtain ⟨h3, h4⟩ := band j3
      clear h j2 j3
      obtain rfl := of_decide_eq_true h1
      unfold E.ok at ok
      unfold E.wp
      cases neg with
      | false => exact pd_cmp (od_eqO ok.1) (E.snd a _ g ok.2.2.1 h2) (E.snd b _ g ok.2.2.2 h3) (bnot h4)
      | true => exact pd_cmp (od_neO ok.1 (ok.2.1 rfl)) (E.snd a _ g ok.2.2.1 h2) (E.snd b _ g ok.2.2.2 h3) (bnot h4)
    · cases h
  | .cmpW neg C f S a b, c, X, x, g, ok, h => by
    unfold E.mt at h
    split at h
    · obtain ⟨h1, j2⟩ := band h
      obtain ⟨h2, j3⟩ := band j2
      obtain ⟨h3, h4⟩ := band j3
      clear h j2 j3
      obtain rfl := of_decide_eq_true h1
      unfold E.ok at ok
      unfold E.wp
      cases neg with
      | false => exact pd_cmp (od_eqW ok.1 ok.2.2.1) (E.snd a _ g ok.2.2.2.1 h2) (E.snd b _ g ok.2.2.2.2 h3) (bnot h4)
      | true => exact pd_cmp (od_neW ok.1 (ok.2.1 rfl) ok.2.2.1) (E.snd a _ g ok.2.2.2.1 h2) (E.snd b _ g ok.2.2.2.2 h3) (bnot h4)
    · cases h
  | .lenO C S a, c, X, x, g, ok, h => by
    unfold E.mt at h
    split at h
    · obtain ⟨h1, h2⟩ := band h
      obtain ⟨h2, h3⟩ := band h2
      obtain ⟨h3, h4⟩ := band h3
      obtain rfl := of_decide_eq_true h1
      unfold E.ok at ok
      unfold E.wp
      exact callB_pe (cd_lenO ok.2.1) PySem.boot_len (by decide) (by decide) (g.gl h2).1 ok.1 (pda_cons (E.snd a _ g ok.2.2 h3) pda_nil (star_of h4 _ _)) (by simp [h4])
    · cases h
  | .dnew kd, c, X, x, g, ok, h => by
    unfold E.mt at h
    split at h
    · unfold E.ok at ok
      unfold E.wp
      exact pd_dnew kd (by cases kd <;> exact ok)
    · cases h
  | .inX P w neg a b, c, X, x, g, ok, h => by
    unfold E.mt at h
    split at h
    · obtain ⟨h1, j2⟩ := band h
      obtain ⟨h2, j3⟩ := band j2
      obtain ⟨h3, h4⟩ := band j3
      clear h j2 j3
      obtain rfl := of_decide_eq_true h1
      unfold E.ok at ok
      unfold E.wp
      exact pd_cmp (od_inX P w ok.1 ok.2.1 neg g.ru) (E.snd a _ g ok.2.2.1 h2) (E.snd b _ g ok.2.2.2 h3) (bnot h4)
    · cases h
  | .getX P w a b, c, X, x, g, ok, h => by
    unfold E.mt at h
    split at h
    · obtain ⟨h1, h2⟩ := band h
      obtain ⟨h2, h3⟩ := band h2
      unfold E.ok at ok
      unfold E.wp; exact pd_getX ok.1 ok.2.1 g.ru (E.snd a _ g ok.2.2.1 h1) (E.snd b _ g ok.2.2.2 h2) (ix_plain h3)
    · cases h
  | .dcp P w a, c, X, x, g, ok, h => by
    unfold E.mt at h
    split at h
    · obtain ⟨h1, h2⟩ := band h
      obtain ⟨h2, h3⟩ := band h2
      obtain ⟨h3, h4⟩ := band h3
      obtain rfl := of_decide_eq_true h1
      unfold E.ok at ok
      unfold E.wp
      exact callT_pe (cd_dcp ok.2.1 ok.2.2.1 g.ru) (by decide +kernel) (by decide) (by decide) (g.gl h2).1 ok.1 (pda_cons (E.snd a _ g ok.2.2.2 h3) pda_nil (star_of h4 _ _)) (by simp [h4])
    · cases h
  | .dlit kvs, c, X, x, g, ok, h => by
    unfold E.mt at h
    split at h
    · obtain ⟨h1, h2⟩ := band h
      unfold E.wp
      exact pd_dlit h1 h2
    · cases h
  | .sortX a, c, X, x, g, ok, h => by
    unfold E.mt at h
    split at h
    · obtain ⟨h1, h2⟩ := band h
      obtain ⟨h2, h3⟩ := band h2
      obtain ⟨h3, h4⟩ := band h3
      obtain rfl := of_decide_eq_true h1
      unfold E.ok at ok
      unfold E.wp
      exact callB_pe (cd_sortX g.calm g.ru) PyProof.Rows.boot_sorted (by decide) (by decide) (g.gl h2).1 ok.1 (pda_cons (E.snd a _ g ok.2 h3) pda_nil (star_of h4 _ _)) (by simp [h4])
    · cases h
  | .meth C m S a es, c, X, x, g, ok, h => by
    unfold E.mt at h
    split at h
    · obtain ⟨h1, h2⟩ := band h
      obtain ⟨h2, h3⟩ := band h2
      obtain ⟨h3, h4⟩ := band h3
      obtain ⟨h4, h5⟩ := band h4
      obtain ⟨h5, h6⟩ := band h5
      obtain rfl := of_decide_eq_true h1
      unfold E.ok at ok
      unfold E.wp
      exact meth_case ok.1 (E.snd a _ g ok.2.1 h2) (Es.snd es _ g ok.2.2 h3) h3 h4 (of_decide_eq_true h5) h6
    · cases h
  | .methK C m S ks a kes, c, X, x, g, ok, h => by
    unfold E.mt at h
    split at h
    · obtain ⟨h1, h2⟩ := band h
      obtain ⟨h2, h3⟩ := band h2
      obtain ⟨h3, h4⟩ := band h3
      obtain ⟨h4, h5⟩ := band h4
      obtain ⟨h5, h6⟩ := band h5
      obtain ⟨h6, h7⟩ := band h6
      obtain rfl := of_decide_eq_true h1
      unfold E.ok at ok
      have a3 := Es.sndK kes _ g ok.2.2.2 h3
      rw [ok.2.1] at a3
      unfold E.wp
      exact pd_methK ok.1 (E.snd a _ g ok.2.2.1 h2) a3 (of_decide_eq_true h4) (of_decide_eq_true h6) h5 h7
    · cases h
  | .dc kd own gt w t kx vx, c, X, x, g, ok, h => by
    unfold E.mt at h
    split at h
    · obtain ⟨h1, h2⟩ := band h
      obtain ⟨h2, h3⟩ := band h2
      obtain ⟨h3, h4⟩ := band h3
      obtain ⟨h4, h5⟩ := band h4
      obtain ⟨h5, h6⟩ := band h5
      obtain ⟨h6, h7⟩ := band h6
      obtain ⟨h7, h8⟩ := band h7
      obtain ⟨h8, h9⟩ := band h8
      obtain rfl := of_decide_eq_true h1
      unfold E.ok at ok
      unfold E.wp
      refine pd_dc kd (by cases kd <;> exact ok.1) g.ru g.calm g.nd (Wk.snd w _ _ g ok.2.1 h4) (blkOk_by (by rw [g.n, g.sc]; exact h2)) (fun s H C cl fp => Tg.snd (g.blk) gt _ h5) (fun s H C cl fp => Oe.sndI t _ (g.blk (s := s) (H := H) (cl := cl) (C := C) (fp := fp)) ok.2.2.1 h6) (fun s H C cl fp => E.snd kx _ (g.blk (s := s) (H := H) (cl := cl) (C := C) (fp := fp)) ok.2.2.2.1 h7) (fun s H C cl fp => E.snd vx _ (g.blk (s := s) (H := H) (cl := cl) (C := C) (fp := fp)) ok.2.2.2.2 h8) (fun v => set_plain h3 _ v) ?_
      intro j hj
      have := List.all_eq_true.mp h9 j hj
      simpa using this
    · cases h
  | .popL a, c, X, x, g, ok, h => by
    unfold E.mt at h
    split at h
    · obtain ⟨h1, h2⟩ := band h
      obtain ⟨h2, h3⟩ := band h2
      obtain ⟨h3, h4⟩ := band h3
      obtain rfl := of_decide_eq_true h1
      unfold E.ok at ok
      unfold E.wp
      exact pd_pop (E.snd a _ g ok h2) h3 h4
    · cases h
  | .popX P w a b, c, X, x, g, ok, h => by
    unfold E.mt at h
    split at h
    · obtain ⟨h1, h2⟩ := band h
      obtain ⟨h2, h3⟩ := band h2
      obtain ⟨h3, h4⟩ := band h3
      obtain ⟨h4, h5⟩ := band h4
      obtain ⟨h5, h6⟩ := band h5
      obtain rfl := of_decide_eq_true h1
      unfold E.ok at ok
      unfold E.wp
      exact pd_popX ok.1 ok.2.1 g.ru (E.snd a _ g ok.2.2.1 h2) (E.snd b _ g ok.2.2.2 h3) h4 h5 h6
    · cases h
  | .rev a, c, X, x, g, ok, h => by
    unfold E.mt at h
    split at h
    · obtain ⟨h1, h2⟩ := band h
      obtain rfl := of_decide_eq_true h1
      unfold E.ok at ok
      unfold E.wp
      exact pd_rev (E.snd a _ g ok h2)
    · cases h
  | .ssI a, c, X, x, g, ok, h => by
    unfold E.mt at h
    split at h
    · obtain ⟨h1, k1⟩ := band h
      obtain ⟨h2, k2⟩ := band k1
      obtain ⟨h3, k3⟩ := band k2
      obtain ⟨h4, k4⟩ := band k3
      obtain ⟨h5, h6⟩ := band k4
      obtain rfl := of_decide_eq_true h1
      obtain rfl := of_decide_eq_true h2
      unfold E.ok at ok
      unfold E.wp
      exact pd_ss g.calm (g.gl h3).1 ok.1 (g.gl h4).1 ok.2.1 (E.snd a _ g ok.2.2 h5) h6
    · cases h
  | .ssT a, c, X, x, g, ok, h => by
    unfold E.mt at h
    split at h
    · obtain ⟨h1, k1⟩ := band h
      obtain ⟨h2, k2⟩ := band k1
      obtain ⟨h3, k3⟩ := band k2
      obtain ⟨h4, k4⟩ := band k3
      obtain ⟨h5, h6⟩ := band k4
      obtain rfl := of_decide_eq_true h1
      obtain rfl := of_decide_eq_true h2
      unfold E.ok at ok
      unfold E.wp
      exact pd_ssT g.calm g.ru (g.gl h3).1 ok.1 (g.gl h4).1 ok.2.1 (E.snd a _ g ok.2.2 h5) h6
    · cases h
  | .ssK a, c, X, x, g, ok, h => by
    unfold E.mt at h
    split at h
    · obtain ⟨h1, k1⟩ := band h
      obtain ⟨h2, k2⟩ := band k1
      obtain ⟨h3, k3⟩ := band k2
      obtain ⟨h4, k4⟩ := band k3
      obtain ⟨h5, h6⟩ := band k4
      obtain rfl := of_decide_eq_true h1
      obtain rfl := of_decide_eq_true h2
      unfold E.ok at ok
      unfold E.wp
      exact pd_ssK g.calm g.ru (g.gl h3).1 ok.1 (g.gl h4).1 ok.2.1 (E.snd a _ g ok.2.2 h5) h6
    · cases h
  | .updX P w a b, c, X, x, g, ok, h => by
    unfold E.mt at h
    split at h
    · obtain ⟨h1, h2⟩ := band h
      obtain ⟨h2, h3⟩ := band h2
      obtain ⟨h3, h4⟩ := band h3
      obtain ⟨h4, h5⟩ := band h4
      obtain ⟨h5, h6⟩ := band h5
      obtain rfl := of_decide_eq_true h1
      unfold E.ok at ok
      unfold E.wp
      exact pd_updX ok.1 ok.2.1 g.ru (E.snd a _ g ok.2.2.1 h2) (E.snd b _ g ok.2.2.2 h3) h4 h5 h6
    · cases h
  | .lenK a, c, X, x, g, ok, h => by
    unfold E.mt at h
    split at h
    · obtain ⟨h1, h2⟩ := band h
      obtain ⟨h2, h3⟩ := band h2
      obtain ⟨h3, h4⟩ := band h3
      obtain rfl := of_decide_eq_true h1
      unfold E.ok at ok
      unfold E.wp
      exact callB_pe cd_lenK PySem.boot_len (by decide) (by decide) (g.gl h2).1 ok.1 (pda_cons (E.snd a _ g ok.2 h3) pda_nil (star_of h4 _ _)) (by simp [h4])
    · cases h
  | .minP a, c, X, x, g, ok, h => by
    unfold E.mt at h
    split at h
    · obtain ⟨h1, h2⟩ := band h
      obtain ⟨h2, h3⟩ := band h2
      obtain ⟨h3, h4⟩ := band h3
      obtain rfl := of_decide_eq_true h1
      unfold E.ok at ok
      unfold E.wp
      exact callB_pe (cd_minP g.calm g.ru) PyProof.Rows.boot_min (by decide) (by decide) (g.gl h2).1 ok.1 (pda_cons (E.snd a _ g ok.2 h3) pda_nil (star_of h4 _ _)) (by simp [h4])
    · cases h
  | .dcM a, c, X, x, g, ok, h => by
    unfold E.mt at h
    split at h
    · obtain ⟨h1, h2⟩ := band h
      obtain ⟨h2, h3⟩ := band h2
      obtain ⟨h3, h4⟩ := band h3
      obtain rfl := of_decide_eq_true h1
      unfold E.ok at ok
      unfold E.wp
      exact callT_pe (cd_dictM g.calm) (by decide +kernel) (by decide) (by decide) (g.gl h2).1 ok.1 (pda_cons (E.snd a _ g ok.2 h3) pda_nil (star_of h4 _ _)) (by simp [h4])
    · cases h
  | .dcT P w a, c, X, x, g, ok, h => by
    unfold E.mt at h
    split at h
    · obtain ⟨h1, h2⟩ := band h
      obtain ⟨h2, h3⟩ := band h2
      obtain ⟨h3, h4⟩ := band h3
      obtain rfl := of_decide_eq_true h1
      unfold E.ok at ok
      unfold E.wp
      exact callT_pe (cd_dictT ok.2.1 ok.2.2.1 g.calm g.ru) (by decide +kernel) (by decide) (by decide) (g.gl h2).1 ok.1 (pda_cons (E.snd a _ g ok.2.2.2 h3) pda_nil (star_of h4 _ _)) (by simp [h4])
    · cases h
  | .sortI a, c, X, x, g, ok, h => by
    unfold E.mt at h
    split at h
    · obtain ⟨h1, h2⟩ := band h
      obtain ⟨h2, h3⟩ := band h2
      obtain ⟨h3, h4⟩ := band h3
      obtain rfl := of_decide_eq_true h1
      unfold E.ok at ok
      unfold E.wp
      exact callB_pe (cd_sortI g.calm) PyProof.Rows.boot_sorted (by decide) (by decide) (g.gl h2).1 ok.1 (pda_cons (E.snd a _ g ok.2 h3) pda_nil (star_of h4 _ _)) (by simp [h4])
    · cases h
  | .tupX a, c, X, x, g, ok, h => by
    unfold E.mt at h
    split at h
    · obtain ⟨h1, h2⟩ := band h
      obtain ⟨h2, h3⟩ := band h2
      obtain ⟨h3, h4⟩ := band h3
      obtain rfl := of_decide_eq_true h1
      unfold E.ok at ok
      unfold E.wp
      exact callT_pe cd_tupX (by decide +kernel) (by decide) (by decide) (g.gl h2).1 ok.1 (pda_cons (E.snd a _ g ok.2 h3) pda_nil (star_of h4 _ _)) (by simp [h4])
    · cases h
  | .ixX a b, c, X, x, g, ok, h => by
    unfold E.mt at h
    split at h
    · obtain ⟨h1, h2⟩ := band h
      obtain ⟨h2, h3⟩ := band h2
      obtain ⟨h3, h4⟩ := band h3
      obtain ⟨h4, h5⟩ := band h4
      obtain ⟨h5, h6⟩ := band h5
      obtain rfl := of_decide_eq_true h1
      unfold E.ok at ok
      unfold E.wp
      exact pd_ixX g.ru (E.snd a _ g ok.1 h2) (pda_cons (E.snd b _ g ok.2 h3) pda_nil (star_of h5 _ _)) h4 h5 h6
    · cases h
  | .sortT a, c, X, x, g, ok, h => by
    unfold E.mt at h
    split at h
    · obtain ⟨h1, h2⟩ := band h
      obtain ⟨h2, h3⟩ := band h2
      obtain ⟨h3, h4⟩ := band h3
      obtain rfl := of_decide_eq_true h1
      unfold E.ok at ok
      unfold E.wp
      exact callB_pe (cd_sortT g.calm g.ru) PyProof.Rows.boot_sorted (by decide) (by decide) (g.gl h2).1 ok.1 (pda_cons (E.snd a _ g ok.2 h3) pda_nil (star_of h4 _ _)) (by simp [h4])
    · cases h
  | .itemsL a, c, X, x, g, ok, h => by
    unfold E.mt at h
    split at h
    · obtain ⟨h1, k1⟩ := band h
      obtain ⟨h2, k2⟩ := band k1
      obtain ⟨h3, k3⟩ := band k2
      obtain ⟨h4, k4⟩ := band k3
      obtain ⟨h5, h6⟩ := band k4
      obtain rfl := of_decide_eq_true h1
      obtain rfl := of_decide_eq_true h2
      unfold E.ok at ok
      unfold E.wp
      exact pd_itemsL g.calm (g.gl h3).1 ok.1 (E.snd a _ g ok.2 h4) h5 h6
    · cases h
  | .zipL a b, c, X, x, g, ok, h => by
    unfold E.mt at h
    split at h
    · obtain ⟨h1, k1⟩ := band h
      obtain ⟨h2, k2⟩ := band k1
      obtain ⟨h3, k3⟩ := band k2
      obtain ⟨h4, k4⟩ := band k3
      obtain ⟨h5, k5⟩ := band k4
      obtain ⟨h6, k6⟩ := band k5
      obtain ⟨h7, h8⟩ := band k6
      obtain rfl := of_decide_eq_true h1
      obtain rfl := of_decide_eq_true h2
      unfold E.ok at ok
      unfold E.wp
      exact pd_zipL g.calm (g.gl h3).1 ok.1 (g.gl h4).1 ok.2.1 (E.snd a _ g ok.2.2.1 h5) (E.snd b _ g ok.2.2.2 h6) (star_of h7 _ _) (star_of h8 _ _)
    · cases h
  | .zipT a b, c, X, x, g, ok, h => by
    unfold E.mt at h
    split at h
    · obtain ⟨h1, k1⟩ := band h
      obtain ⟨h2, k2⟩ := band k1
      obtain ⟨h3, k3⟩ := band k2
      obtain ⟨h4, k4⟩ := band k3
      obtain ⟨h5, k5⟩ := band k4
      obtain ⟨h6, k6⟩ := band k5
      obtain ⟨h7, h8⟩ := band k6
      obtain rfl := of_decide_eq_true h1
      obtain rfl := of_decide_eq_true h2
      unfold E.ok at ok
      unfold E.wp
      exact pd_zipLT g.calm (g.gl h3).1 ok.1 (g.gl h4).1 ok.2.1 (E.snd a _ g ok.2.2.1 h5) (E.snd b _ g ok.2.2.2 h6) (star_of h7 _ _) (star_of h8 _ _)
    · cases h
  | .junk, c, X, x, g, ok, h => by unfold E.wp; exact never_e
  | .xf a C f, c, X, x, g, ok, h => by
    unfold E.mt at h
    split at h
    · obtain ⟨h1, h2⟩ := band h
      obtain ⟨h2, h3⟩ := band h2
      obtain rfl := of_decide_eq_true h1
      unfold E.ok at ok
      unfold E.wp; exact pd_xf ok.1 (E.snd a _ g ok.2 h2) h3
    · cases h
  | .know A B a, c, X, x, g, ok, h => by
    unfold E.mt at h
    unfold E.ok at ok
    unfold E.wp
    exact (E.snd a _ g ok.2 h).imp fun σ H Q => by
      rintro ⟨ρ, M, F, Q0, s, q, gg⟩
      exact ⟨ρ, M, F, Q0, s, q ok.1, gg⟩
  | .inRg a b, c, X, x, g, ok, h => by
    unfold E.mt at h
    split at h
    · obtain ⟨h1, k1⟩ := band h
      obtain ⟨h2, k2⟩ := band k1
      obtain ⟨h3, k3⟩ := band k2
      obtain ⟨h4, h5⟩ := band k3
      obtain rfl := of_decide_eq_true h1
      unfold E.ok at ok
      unfold E.wp
      exact pd_inRg (g.gl h2).1 ok.1 (E.snd a _ g ok.2.1 h3) (E.snd b _ g ok.2.2 h4) h5
    · cases h
  | .rg2 a b, c, X, x, g, ok, h => by
    unfold E.mt at h
    split at h
    · obtain ⟨h1, k1⟩ := band h
      obtain ⟨h2, k2⟩ := band k1
      obtain ⟨h3, k3⟩ := band k2
      obtain ⟨h4, k4⟩ := band k3
      obtain ⟨h5, k5⟩ := band k4
      obtain ⟨h6, k6⟩ := band k5
      obtain ⟨h7, h8⟩ := band k6
      obtain rfl := of_decide_eq_true h1
      obtain rfl := of_decide_eq_true h2
      unfold E.ok at ok
      unfold E.wp
      exact pd_rg2 g.calm (g.gl h3).1 ok.1 (g.gl h4).1 ok.2.1 (E.snd a _ g ok.2.2.1 h5) (E.snd b _ g ok.2.2.2 h6) h7 h8
    · cases h
  | .rgC t a, c, X, x, g, ok, h => by
    unfold E.mt at h
    split at h
    · obtain ⟨h1, k1⟩ := band h
      obtain ⟨h2, k2⟩ := band k1
      obtain ⟨h3, k3⟩ := band k2
      obtain ⟨h4, k4⟩ := band k3
      obtain ⟨h5, h6⟩ := band k4
      obtain rfl := of_decide_eq_true h1
      obtain rfl := of_decide_eq_true h2
      unfold E.ok at ok
      unfold E.wp
      exact pd_rgC t g.calm (g.gl h3).1 ok.1 (g.gl h4).1 ok.2.1 (E.snd a _ g ok.2.2 h5) h6
    · cases h
  | .lc2 own gt w t gt1 w1 t1 elt, c, X, x, g, ok, h => by
    unfold E.mt at h
    split at h
    · obtain ⟨h1, h⟩ := band h
      obtain ⟨h1b, h⟩ := band h
      obtain ⟨h2, h⟩ := band h
      obtain ⟨h3, h⟩ := band h
      obtain ⟨h3b, h⟩ := band h
      obtain ⟨h4, h⟩ := band h
      obtain ⟨h5, h⟩ := band h
      obtain ⟨h6, h⟩ := band h
      obtain ⟨h7, h⟩ := band h
      obtain ⟨h8, h⟩ := band h
      obtain ⟨h9, h⟩ := band h
      obtain ⟨h10, h⟩ := band h
      obtain ⟨h11, h12⟩ := band h
      obtain rfl := of_decide_eq_true h1
      obtain rfl := of_decide_eq_true h1b
      unfold E.ok at ok
      unfold E.wp
      have c1 : ∀ j ∈ gt.slots, j ∈ own.map (·.2) := fun j hj => by
        have := List.all_eq_true.mp h11 j hj
        simpa using this
      have c2 : ∀ j ∈ gt1.slots, j ∈ own.map (·.2) := fun j hj => by
        have := List.all_eq_true.mp h12 j hj
        simpa using this
      exact pd_lc2 g.calm g.nd (Wk.snd w _ _ g ok.1 h4) (blkOk_by (by rw [g.n, g.sc]; exact h2)) c2 (fun s H C cl fp => Tg.snd (g.blk) gt _ h5) (fun s H C cl fp => Oe.sndI t _ (g.blk (s := s) (H := H) (cl := cl) (C := C) (fp := fp)) ok.2.1 h6)
        (fun s H C cl fp => Wk.snd w1 _ _ (g.blk (s := s) (H := H) (cl := cl) (C := C) (fp := fp)) ok.2.2.1 h7) (fun s H C cl fp => Tg.snd (g.blk) gt1 _ h8) (fun s H C cl fp => Oe.sndI t1 _ (g.blk (s := s) (H := H) (cl := cl) (C := C) (fp := fp)) ok.2.2.2.1 h9)
        (fun s H C cl fp => E.snd elt _ (g.blk (s := s) (H := H) (cl := cl) (C := C) (fp := fp)) ok.2.2.2.2 h10) (fun v => set_plain h3 _ v) (fun env v => set_plain h3b _ v) c1 (fun j hj => hj)
    · cases h
  | .lc own gt w t elt, c, X, x, g, ok, h => by
    unfold E.mt at h
    split at h
    · obtain ⟨h1, h2⟩ := band h
      obtain ⟨h2, h3⟩ := band h2
      obtain ⟨h3, h4⟩ := band h3
      obtain ⟨h4, h5⟩ := band h4
      obtain ⟨h5, h6⟩ := band h5
      obtain ⟨h6, h7⟩ := band h6
      obtain ⟨h7, h8⟩ := band h7
      obtain rfl := of_decide_eq_true h1
      unfold E.ok at ok
      unfold E.wp
      refine pd_lc g.calm g.nd (Wk.snd w _ _ g ok.1 h4) (blkOk_by (by rw [g.n, g.sc]; exact h2)) (fun s H C cl fp => Tg.snd (g.blk) gt _ h5) (fun s H C cl fp => Oe.sndI t _ (g.blk (s := s) (H := H) (cl := cl) (C := C) (fp := fp)) ok.2.1 h6) (fun s H C cl fp => E.snd elt _ (g.blk (s := s) (H := H) (cl := cl) (C := C) (fp := fp)) ok.2.2 h7) (fun v => set_plain h3 _ v) ?_
      intro j hj
      have := List.all_eq_true.mp h8 j hj
      simpa using this
    · cases h
theorem E.sndT : ∀ (e : E) {c : Sc} {X : Cx} (x : Expr), Gd c X → e.ok (co X) → e.mt c x = true → PT X x (tDT X.K e.wpT)
  | .var i, c, X, x, g, ok, h => by
    unfold E.mt at h
    split at h
    · unfold E.wpT; exact pdt_truth (pd_var (x := "") (g.var h)) (test_plain rfl _)
    · cases h
  | .bl i, c, X, x, g, ok, h => by
    unfold E.mt at h
    split at h
    · obtain rfl := of_decide_eq_true h
      unfold E.wpT; exact pdt_truth (pd_c pe_bl fun H => by unfold Rep; rfl) (test_plain rfl _)
    · cases h
  | .cmp o a b, c, X, x, g, ok, h => by
    unfold E.mt at h
    split at h
    · obtain ⟨h1, h2⟩ := band h
      obtain ⟨h2, h3⟩ := band h2
      obtain ⟨h3, h4⟩ := band h3
      obtain rfl := of_decide_eq_true h1
      unfold E.ok at ok
      unfold E.wpT; exact pdt_cmp (cmpF_ok g.ru o) (E.snd a _ g ok.1 h2) (E.snd b _ g ok.2 h3) (bnot h4)
    · cases h
  | .chain o p a b d, c, X, x, g, ok, h => by
    unfold E.mt at h
    split at h
    · obtain ⟨h1, h2⟩ := band h
      obtain ⟨h2, h3⟩ := band h2
      obtain ⟨h3, h4⟩ := band h3
      obtain ⟨h4, h5⟩ := band h4
      obtain ⟨h5, h6⟩ := band h5
      obtain rfl := of_decide_eq_true h1
      obtain rfl := of_decide_eq_true h2
      unfold E.ok at ok
      unfold E.wpT; exact pdt_chain (cmpF_ok g.ru o) (cmpF_ok g.ru p) (E.snd a _ g ok.1 h3) (E.snd b _ g ok.2.1 h4) (E.snd d _ g ok.2.2 h5) (bnot h6)
    · cases h
  | .bop o es, c, X, x, g, ok, h => by
    unfold E.mt at h
    split at h
    · obtain ⟨h1, h2⟩ := band h
      obtain rfl := of_decide_eq_true h1
      unfold E.ok at ok
      unfold E.wpT; exact (Es.sndT es _ g ok h2).pt
    · cases h
  | .not_ a, c, X, x, g, ok, h => by
    unfold E.mt at h
    split at h
    · unfold E.ok at ok
      unfold E.wpT; exact pdt_not (E.sndT a _ g ok h)
    · cases h
  | .idx a b, c, X, x, g, ok, h => by
    unfold E.mt at h
    split at h
    · obtain ⟨h1, h2⟩ := band h
      obtain ⟨h2, h3⟩ := band h2
      unfold E.ok at ok
      unfold E.wpT; exact pdt_truth (pd_ix (E.snd a _ g ok.1 h1) (E.snd b _ g ok.2 h2) (ix_plain h3)) (test_plain rfl _)
    · cases h
  | .fld a C f, c, X, x, g, ok, h => by
    unfold E.mt at h
    split at h
    · obtain ⟨h1, h2⟩ := band h
      obtain ⟨h2, h3⟩ := band h2
      obtain rfl := of_decide_eq_true h1
      unfold E.ok at ok
      unfold E.wpT; exact pdt_truth (pd_fld ok.1 (E.snd a _ g ok.2 h2) h3) (test_plain rfl _)
    · cases h
  | .isa a k f, c, X, x, g, ok, h => by
    unfold E.mt at h
    split at h
    · obtain ⟨h1, h2⟩ := band h
      obtain ⟨h2, h3⟩ := band h2
      obtain ⟨h3, h4⟩ := band h3
      obtain ⟨h4, h5⟩ := band h4
      obtain ⟨h5, h6⟩ := band h5
      obtain rfl := of_decide_eq_true h1
      unfold E.ok at ok
      unfold E.wpT
      refine pdt_truth (isa_pe ok.1 (E.snd a _ g ok.2 h3) h4 (g.gl h2).1 (g.gl h5) ?_) (test_plain rfl _)
      cases k with
      | bty t =>
        obtain ⟨h6, h7⟩ := band h6
        exact ⟨of_decide_eq_true h6, h7⟩
      | own z C => exact of_decide_eq_true h6
    · cases h
  | .bcall b es, c, X, x, g, ok, h => by
    unfold E.mt at h
    split at h
    · obtain ⟨h1, h2⟩ := band h
      obtain ⟨h2, h3⟩ := band h2
      obtain rfl := of_decide_eq_true h1
      unfold E.ok at ok
      obtain ⟨a1, a2⟩ := Es.snd es _ g ok.2.2 h3
      unfold E.wpT; exact pdt_truth (b.pe g.ru g.calm ok.2.1 (g.gl h2).1 ok.1 (pdn_a a1) a2) (test_plain rfl _)
    · cases h
  | .call n S es, c, X, x, g, ok, h => by
    unfold E.mt at h
    split at h
    · obtain ⟨h1, h2⟩ := band h
      obtain ⟨h2, h3⟩ := band h2
      obtain rfl := of_decide_eq_true h1
      unfold E.ok at ok
      obtain ⟨a1, a2⟩ := Es.snd es _ g ok.2 h3
      unfold E.wpT; exact pdt_truth (call_case ok.1 g h2 h3 a1 a2) (test_plain rfl _)
    · cases h
  | .cmpO neg C S a b, c, X, x, g, ok, h => by
    unfold E.mt at h
    split at h
    · obtain ⟨h1, j2⟩ := band h
      obtain ⟨h2, j3⟩ := band j2
      obtain ⟨h3, h4⟩ := band j3
      clear h j2 j3
      obtain rfl := of_decide_eq_true h1
      unfold E.ok at ok
      unfold E.wpT
      cases neg with
      | false => exact pdt_cmp (od_eqO ok.1) (E.snd a _ g ok.2.2.1 h2) (E.snd b _ g ok.2.2.2 h3) (bnot h4)
      | true => exact pdt_cmp (od_neO ok.1 (ok.2.1 rfl)) (E.snd a _ g ok.2.2.1 h2) (E.snd b _ g ok.2.2.2 h3) (bnot h4)
    · cases h
  | .cmpW neg C f S a b, c, X, x, g, ok, h => by
    unfold E.mt at h
    split at h
    · obtain ⟨h1, j2⟩ := band h
      obtain ⟨h2, j3⟩ := band j2
      obtain ⟨h3, h4⟩ := band j3
      clear h j2 j3
      obtain rfl := of_decide_eq_true h1
      unfold E.ok at ok
      unfold E.wpT
      cases neg with
      | false => exact pdt_cmp (od_eqW ok.1 ok.2.2.1) (E.snd a _ g ok.2.2.2.1 h2) (E.snd b _ g ok.2.2.2.2 h3) (bnot h4)
      | true => exact pdt_cmp (od_neW ok.1 (ok.2.1 rfl) ok.2.2.1) (E.snd a _ g ok.2.2.2.1 h2) (E.snd b _ g ok.2.2.2.2 h3) (bnot h4)
    · cases h
  | .inX P w neg a b, c, X, x, g, ok, h => by
    unfold E.mt at h
    split at h
    · obtain ⟨h1, j2⟩ := band h
      obtain ⟨h2, j3⟩ := band j2
      obtain ⟨h3, h4⟩ := band j3
      clear h j2 j3
      obtain rfl := of_decide_eq_true h1
      unfold E.ok at ok
      unfold E.wpT
      exact pdt_cmp (od_inX P w ok.1 ok.2.1 neg g.ru) (E.snd a _ g ok.2.2.1 h2) (E.snd b _ g ok.2.2.2 h3) (bnot h4)
    · cases h
  | .meth C m S a es, c, X, x, g, ok, h => by
    unfold E.mt at h
    split at h
    · obtain ⟨h1, h2⟩ := band h
      obtain ⟨h2, h3⟩ := band h2
      obtain ⟨h3, h4⟩ := band h3
      obtain ⟨h4, h5⟩ := band h4
      obtain ⟨h5, h6⟩ := band h5
      obtain rfl := of_decide_eq_true h1
      unfold E.ok at ok
      unfold E.wpT
      exact pdt_truth (meth_case ok.1 (E.snd a _ g ok.2.1 h2) (Es.snd es _ g ok.2.2 h3) h3 h4 (of_decide_eq_true h5) h6) (test_plain rfl _)
    · cases h
  | .dnew _, c, X, x, g, ok, h => by unfold E.wpT; exact never_t
  | .getX _ _ _ _, c, X, x, g, ok, h => by unfold E.wpT; exact never_t
  | .sortX _, c, X, x, g, ok, h => by unfold E.wpT; exact never_t
  | .dcp _ _ _, c, X, x, g, ok, h => by unfold E.wpT; exact never_t
  | .dlit _, c, X, x, g, ok, h => by unfold E.wpT; exact never_t
  | .popL _, c, X, x, g, ok, h => by unfold E.wpT; exact never_t
  | .popX _ _ _ _, c, X, x, g, ok, h => by unfold E.wpT; exact never_t
  | .rgC _ _, c, X, x, g, ok, h => by unfold E.wpT; exact never_t
  | .ssI _, c, X, x, g, ok, h => by unfold E.wpT; exact never_t
  | .ssT _, c, X, x, g, ok, h => by unfold E.wpT; exact never_t
  | .ssK _, c, X, x, g, ok, h => by unfold E.wpT; exact never_t
  | .minP _, c, X, x, g, ok, h => by unfold E.wpT; exact never_t
  | .lenK _, c, X, x, g, ok, h => by unfold E.wpT; exact never_t
  | .dcM _, c, X, x, g, ok, h => by unfold E.wpT; exact never_t
  | .dcT _ _ _, c, X, x, g, ok, h => by unfold E.wpT; exact never_t
  | .sortI _, c, X, x, g, ok, h => by unfold E.wpT; exact never_t
  | .sortT _, c, X, x, g, ok, h => by unfold E.wpT; exact never_t
  | .tupX _, c, X, x, g, ok, h => by unfold E.wpT; exact never_t
  | .ixX _ _, c, X, x, g, ok, h => by unfold E.wpT; exact never_t
  | .rg2 _ _, c, X, x, g, ok, h => by unfold E.wpT; exact never_t
  | .inRg _ _, c, X, x, g, ok, h => by unfold E.wpT; exact never_t
  | .junk, c, X, x, g, ok, h => by unfold E.wpT; exact never_t
  | .know _ _ _, c, X, x, g, ok, h => by unfold E.wpT; exact never_t
  | .xf _ _ _, c, X, x, g, ok, h => by unfold E.wpT; exact never_t
  | .zipL _ _, c, X, x, g, ok, h => by unfold E.wpT; exact never_t
  | .zipT _ _, c, X, x, g, ok, h => by unfold E.wpT; exact never_t
  | .itemsL _, c, X, x, g, ok, h => by unfold E.wpT; exact never_t
  | .methK _ _ _ _ _ _, c, X, x, g, ok, h => by unfold E.wpT; exact never_t
  | .updX _ _ _ _, c, X, x, g, ok, h => by unfold E.wpT; exact never_t
  | .rev _, c, X, x, g, ok, h => by unfold E.wpT; exact never_t
  | .lc2 _ _ _ _ _ _ _ _, c, X, x, g, ok, h => by unfold E.wpT; exact never_t
  | .big, c, X, x, g, ok, h => by unfold E.wpT; exact never_t
  | .lenO _ _ _, c, X, x, g, ok, h => by unfold E.wpT; exact never_t
  | .dc _ _ _ _ _ _ _, c, X, x, g, ok, h => by unfold E.wpT; exact never_t
  | .int _, c, X, x, g, ok, h => by unfold E.wpT; exact never_t
  | .str _, c, X, x, g, ok, h => by unfold E.wpT; exact never_t
  | .non, c, X, x, g, ok, h => by unfold E.wpT; exact never_t
  | .glob _ _, c, X, x, g, ok, h => by unfold E.wpT; exact never_t
  | .tup _, c, X, x, g, ok, h => by unfold E.wpT; exact never_t
  | .lst _, c, X, x, g, ok, h => by unfold E.wpT; exact never_t
  | .bin _ _ _, c, X, x, g, ok, h => by unfold E.wpT; exact never_t
  | .neg _, c, X, x, g, ok, h => by unfold E.wpT; exact never_t
  | .ife t a b, c, X, x, g, ok, h => by
    unfold E.mt at h
    split at h
    · obtain ⟨h1, h2⟩ := band h
      obtain ⟨h2, h3⟩ := band h2
      unfold E.ok at ok
      unfold E.wpT; exact pdt_if (E.sndT t _ g ok.1 h1) (E.sndT a _ g ok.2.1 h2) (E.sndT b _ g ok.2.2 h3)
    · cases h
  | .slc _ _ _, c, X, x, g, ok, h => by unfold E.wpT; exact never_t
  | .slS _ _ _, c, X, x, g, ok, h => by unfold E.wpT; exact never_t
  | .bm _ _ _, c, X, x, g, ok, h => by unfold E.wpT; exact never_t
  | .callK _ _ _ _ _, c, X, x, g, ok, h => by unfold E.wpT; exact never_t
  | .lc _ _ _ _ _, c, X, x, g, ok, h => by unfold E.wpT; exact never_t
theorem Es.sndT : ∀ (e : Es) {c : Sc} {X : Cx} (x : List Expr) {o : BoolOp} {pos : Pos}, Gd c X → e.ok (co X) → e.mt c x = true → PW X (.BoolOp o x pos) (tDT X.K (e.wpT o))
  | .nil, c, X, x, o, pos, g, ok, h => by unfold Es.wpT; exact never_w
  | .cons e .nil, c, X, x, o, pos, g, ok, h => by
    unfold Es.mt at h
    split at h
    · obtain ⟨h1, h2⟩ := band h
      obtain ⟨k2, k3⟩ := band h2
      clear h2 h
      unfold Es.ok at ok
      unfold Es.mt at k3
      split at k3
      · unfold Es.wpT
        cases o with
        | And => exact pw_and1 (E.sndT e _ g ok.1 k2)
        | Or => exact pw_or1 (E.sndT e _ g ok.1 k2)
      · cases k3
    · cases h
  | .cons e (.cons e2 es), c, X, x, o, pos, g, ok, h => by
    unfold Es.mt at h
    split at h
    · obtain ⟨h1, h2⟩ := band h
      obtain ⟨k2, k3⟩ := band h2
      clear h2 h
      unfold Es.ok at ok
      have ih := Es.sndT (.cons e2 es) _ (o := o) (pos := pos) g ok.2 k3
      unfold Es.mt at k3
      split at k3
      · cases o with
        | And => unfold Es.wpT; exact pdw_and (E.sndT e _ g ok.1 k2) ih
        | Or => unfold Es.wpT; exact pdw_or (E.sndT e _ g ok.1 k2) ih
      · cases k3
    · cases h
theorem Es.snd : ∀ (e : Es) {c : Sc} {X : Cx} (x : List Expr), Gd c X → e.ok (co X) → e.mt c x = true → PA X x (tDN X.K e.len e.wp) ∧ x.all notStar = true
  | .nil, c, X, x, g, ok, h => by
    unfold Es.mt at h
    split at h
    · unfold Es.wp; exact ⟨pdn_nil, rfl⟩
    · cases h
  | .cons e es, c, X, x, g, ok, h => by
    unfold Es.mt at h
    split at h
    · obtain ⟨h1, h2⟩ := band h
      obtain ⟨h2, h3⟩ := band h2
      unfold Es.ok at ok
      obtain ⟨a1, a2⟩ := Es.snd es _ g ok.2 h3
      unfold Es.wp Es.len
      exact ⟨pdn_cons (E.snd e _ g ok.1 h2) a1 (star_of h1 _ _), by rw [List.all_cons, h1, a2]; rfl⟩
    · cases h
theorem Es.sndK : ∀ (e : Es) {c : Sc} {X : Cx} (x : List Keyword), Gd c X → e.ok (co X) → e.mtK c x = true → PK X x (tDN X.K e.len e.wp)
  | .nil, c, X, x, g, ok, h => by
    unfold Es.mtK at h
    split at h
    · unfold Es.wp; exact pdk_nil
    · cases h
  | .cons e es, c, X, x, g, ok, h => by
    unfold Es.mtK at h
    split at h
    · obtain ⟨h2, h3⟩ := band h
      unfold Es.ok at ok
      unfold Es.wp Es.len
      exact pdk_cons (E.snd e _ g ok.1 h2) (Es.sndK es _ g ok.2 h3)
    · cases h
theorem Es.sndV : ∀ (e : Es) {c : Sc} {X : Cx} (x : List Expr) {o : BoolOp} {pos : Pos}, Gd c X → e.ok (co X) → e.mt c x = true → PE X (.BoolOp o x pos) (tD X.K (e.wpV o))
  | .nil, c, X, x, o, pos, g, ok, h => by unfold Es.wpV; exact never_e
  | .cons e .nil, c, X, x, o, pos, g, ok, h => by
    unfold Es.mt at h
    split at h
    · obtain ⟨h1, h2⟩ := band h
      obtain ⟨k2, k3⟩ := band h2
      clear h2 h
      unfold Es.ok at ok
      unfold Es.mt at k3
      split at k3
      · unfold Es.wpV
        exact pe_one (E.snd e _ g ok.1 k2)
      · cases k3
    · cases h
  | .cons e (.cons e2 es), c, X, x, o, pos, g, ok, h => by
    unfold Es.mt at h
    split at h
    · obtain ⟨h1, h2⟩ := band h
      obtain ⟨k2, k3⟩ := band h2
      clear h2 h
      unfold Es.ok at ok
      have ih := Es.sndV (.cons e2 es) _ (o := o) (pos := pos) g ok.2 k3
      unfold Es.mt at k3
      split at k3
      · cases o with
        | And => unfold Es.wpV; exact pd_and (E.snd e _ g ok.1 k2) ih
        | Or => unfold Es.wpV; exact pd_or (E.snd e _ g ok.1 k2) ih
      · cases k3
    · cases h
theorem Oe.snd : ∀ (e : Oe) {c : Sc} {X : Cx} (x : Option Expr), Gd c X → e.ok (co X) → e.mt c x = true → PO X x (tDO X.K e.wpO)
  | .none, c, X, x, g, ok, h => by
    unfold Oe.mt at h
    split at h
    · unfold Oe.wpO; exact pdo_none
    · cases h
  | .some e, c, X, x, g, ok, h => by
    unfold Oe.mt at h
    split at h
    · unfold Oe.ok at ok
      unfold Oe.wpO; exact pdo_some (E.snd e _ g ok h)
    · cases h
theorem Oe.sndI : ∀ (e : Oe) {c : Sc} {X : Cx} (x : List Expr), Gd c X → e.ok (co X) → e.mtI c x = true → PTs X x (tDT X.K e.wpT)
  | .none, c, X, x, g, ok, h => by
    unfold Oe.mtI at h
    split at h
    · unfold Oe.wpT
      refine ⟨fun pins s σ H Q I hq => pts_nil.run pins s σ H Q I ?_⟩
      obtain ⟨ρ, M, F, Q0, s0, q, gg⟩ := hq
      exact gg _ M H q (.refl _) s0.fr.frm s0.rm
    · cases h
  | .some e, c, X, x, g, ok, h => by
    unfold Oe.mtI at h
    split at h
    · unfold Oe.ok at ok
      unfold Oe.wpT; exact pts_one (E.sndT e _ g ok h)
    · cases h
theorem Wk.snd : ∀ (w : Wk) {c : Sc} {X : Cx} (tg x : Expr), Gd c X → w.ok (co X) → w.mt c tg x = true → PI X tg x (iD X.K w.wp)
  | .seq e, c, X, tg, x, g, ok, h => by
    unfold Wk.mt at h; unfold Wk.ok at ok; unfold Wk.wp
    exact pid_seq (E.snd e _ g ok h)
  | .str e, c, X, tg, x, g, ok, h => by
    unfold Wk.mt at h; unfold Wk.ok at ok; unfold Wk.wp
    exact pid_str (E.snd e _ g ok h)
  | .enm e, c, X, tg, x, g, ok, h => by
    unfold Wk.mt at h
    split at h
    · obtain ⟨h0, h⟩ := band h
      obtain ⟨h1, h2⟩ := band h
      obtain ⟨h2, h3⟩ := band h2
      obtain ⟨h3, h4⟩ := band h3
      obtain rfl := of_decide_eq_true h1
      unfold Wk.ok at ok; unfold Wk.wp
      cases tg <;> first | (cases h0; done) | skip
      exact pid_en (E.snd e _ g ok.2 h4) (g.gl h2).1 ok.1 (star_of h3 _ _)
    · cases h
  | .r1 e, c, X, tg, x, g, ok, h => by
    unfold Wk.mt at h
    split at h
    · obtain ⟨h1, h2⟩ := band h
      obtain ⟨h2, h3⟩ := band h2
      obtain ⟨h3, h4⟩ := band h3
      obtain rfl := of_decide_eq_true h1
      unfold Wk.ok at ok; unfold Wk.wp
      exact pid_r1 (E.snd e _ g ok.2 h4) (g.gl h2).1 ok.1 (star_of h3 _ _)
    · cases h
  | .r2 a b, c, X, tg, x, g, ok, h => by
    unfold Wk.mt at h
    split at h
    · obtain ⟨h1, h2⟩ := band h
      obtain ⟨h2, h3⟩ := band h2
      obtain ⟨h3, h4⟩ := band h3
      obtain ⟨h4, h5⟩ := band h4
      obtain ⟨h5, h6⟩ := band h5
      obtain rfl := of_decide_eq_true h1
      unfold Wk.ok at ok; unfold Wk.wp
      exact pid_r2 (E.snd a _ g ok.2.1 h4) (E.snd b _ g ok.2.2 h6) (g.gl h2).1 ok.1 (by rw [star_of h3, star_of h5]; rfl) (star_of h5 _ _)
    · cases h
  | .zip a b, c, X, tg, x, g, ok, h => by
    unfold Wk.mt at h
    split at h
    · obtain ⟨h0, h⟩ := band h
      obtain ⟨h1, h2⟩ := band h
      obtain ⟨h2, h3⟩ := band h2
      obtain ⟨h3, h4⟩ := band h3
      obtain ⟨h4, h5⟩ := band h4
      obtain ⟨h5, h6⟩ := band h5
      obtain rfl := of_decide_eq_true h1
      unfold Wk.ok at ok; unfold Wk.wp
      cases tg <;> first | (cases h0; done) | skip
      exact pid_zip (E.snd a _ g ok.2.1 h4) (E.snd b _ g ok.2.2 h6) (g.gl h2).1 ok.1 (star_of h3 _ _) (star_of h5 _ _)
    · cases h
  | .zipM a b, c, X, tg, x, g, ok, h => by
    unfold Wk.mt at h
    split at h
    · obtain ⟨h0, h⟩ := band h
      obtain ⟨h1, h2⟩ := band h
      obtain ⟨h2, h3⟩ := band h2
      obtain ⟨h3, h4⟩ := band h3
      obtain ⟨h4, h5⟩ := band h4
      obtain ⟨h5, h6⟩ := band h5
      obtain rfl := of_decide_eq_true h1
      unfold Wk.ok at ok; unfold Wk.wp
      cases tg <;> first | (cases h0; done) | skip
      exact pid_mix (E.snd a _ g ok.2.1 h4) (E.snd b _ g ok.2.2 h6) (g.gl h2).1 ok.1 (star_of h3 _ _) (star_of h5 _ _)
    · cases h
end
end DL

set_option Elab.async false
set_option linter.all false
set_option maxRecDepth 100000
set_option maxHeartbeats 8000000
/-! DLk: statements as data; a def by its body. -/
namespace DL
open PySem L2
def bkS (sc : Scope) : ScopeKind := if sc.kind.isAnnotationScope then .function else sc.kind
def spB (ts vs : List Expr) (sc : Scope) : Option (Option (List Str)) :=
  if (!(ts.length == 2 || ts.length == 3) || vs.length != ts.length || bkS sc != .function) = true then some none else
  if (vs.any fun | .Starred .. => true | _ => false) = true then some none else
  let line := (ts.head?.map (·.pos.line)).getD 0
  let names := ts.filterMap fun
    | .Name id pos => if (sc.names.lookup id == some .local && pos.line == line) = true then some id else none
    | _ => none
  if (names.length != ts.length || names.eraseDups.length != names.length) = true then some none else
  if (vs.all (foldedForSure 8)) = true then some none else
  if (vs.all (constantsAlone 8)) = true then none else some (some names)
theorem sp_ok {ts vs : List Expr} {k k2 : Nat} {p p2 : Pos} {env : Env} {r : Option (List Str)} (h : spB ts vs env.scope = some r) : swappedStores [.Tuple ts k p] (.Tuple vs k2 p2) env = pure r := by
  unfold spB at h
  unfold swappedStores
  show (if (!(ts.length == 2 || ts.length == 3) || vs.length != ts.length || env.blockKind != .function) = true then _ else _) = _
  by_cases h1 : (!(ts.length == 2 || ts.length == 3) || vs.length != ts.length || bkS env.scope != .function) = true
  · rw [if_pos h1] at h
    cases h
    exact if_pos h1
  · rw [if_neg h1] at h
    refine (if_neg h1).trans ?_
    split at h
    · rename_i h2
      cases h
      exact if_pos h2
    · rename_i h2
      refine (if_neg h2).trans ?_
      dsimp only at h ⊢
      split at h
      · rename_i h3
        cases h
        exact if_pos h3
      · rename_i h3
        refine (if_neg h3).trans ?_
        split at h
        · rename_i h4
          cases h
          exact if_pos h4
        · rename_i h4
          refine (if_neg h4).trans ?_
          split at h
          · cases h
          · rename_i h5
            cases h
            exact if_neg h5

def swN (c : Sc) (scope : Scope) (t : Str) (p pos : Pos) : Bool := bkS c.sc == .function && c.sc.names.lookup t == some .local && p.line == pos.line && !(scope.names.any fun (n, k) => n == t && (k == .local || k == .cell))
def swOk (c : Sc) (tg v : Expr) : Bool := match v with
  | .ListComp _ _ scope pos => (match tg with | .Name t p => !swN c scope t p pos | _ => true)
  | .SetComp _ _ scope pos => (match tg with | .Name t p => !swN c scope t p pos | _ => true)
  | .DictComp _ _ _ scope pos => (match tg with | .Name t p => !swN c scope t p pos | _ => true)
  | _ => true
def spOk (c : Sc) (tg v : Expr) : Bool := match tg, v with
  | .Tuple ts _ _, .Tuple vs _ _ => decide (spB ts vs c.sc = some none)
  | .List _ _, .Tuple _ _ _ => false
  | _, _ => true
theorem sw_l {c : Sc} {X : Cx} (g : Gd c X) {scope : Scope} {y : Str} {py pos : Pos} {el : Expr} {gs : List Comprehension} {l : Nat} : swapsWith (.ListComp el gs scope pos) (some (.Name y py)) l X.env = pure (swN c scope y py pos) := by unfold swN; rw [← g.sc]; rfl
theorem sw_s {c : Sc} {X : Cx} (g : Gd c X) {scope : Scope} {y : Str} {py pos : Pos} {el : Expr} {gs : List Comprehension} {l : Nat} : swapsWith (.SetComp el gs scope pos) (some (.Name y py)) l X.env = pure (swN c scope y py pos) := by unfold swN; rw [← g.sc]; rfl
theorem sw_d {c : Sc} {X : Cx} (g : Gd c X) {scope : Scope} {y : Str} {py pos : Pos} {el el' : Expr} {gs : List Comprehension} {l : Nat} : swapsWith (.DictComp el el' gs scope pos) (some (.Name y py)) l X.env = pure (swN c scope y py pos) := by unfold swN; rw [← g.sc]; rfl
theorem swOk_ok {c : Sc} {X : Cx} (g : Gd c X) {tg v : Expr} (h : swOk c tg v = true) (l : Nat) : swapsWithSole [tg] v l X.env = pure false := by
  show swapsWith v (some tg) l X.env = pure false
  cases v with
  | ListComp a b scope pos =>
    cases tg with
    | Name t p => rw [sw_l g, bnot h]
    | _ => rfl
  | SetComp a b scope pos =>
    cases tg with
    | Name t p => rw [sw_s g, bnot h]
    | _ => rfl
  | DictComp a a' b scope pos =>
    cases tg with
    | Name t p => rw [sw_d g, bnot h]
    | _ => rfl
  | _ => rfl
theorem sw_lc {c : Sc} {X : Cx} (g : Gd c X) {scope : Scope} {y : Str} {py pos : Pos} (h : swN c scope y py pos = true) {el : Expr} {gs : List Comprehension} {l : Nat} : swapsWith (.ListComp el gs scope pos) (some (.Name y py)) l X.env = pure true := by
  have e : swapsWith (.ListComp el gs scope pos) (some (.Name y py)) l X.env = pure (swN c scope y py pos) := by unfold swN; rw [← g.sc]; rfl
  rw [e, h]
theorem spOk_ok {c : Sc} {X : Cx} (g : Gd c X) {tg v : Expr} (h : spOk c tg v = true) : swappedStores [tg] v X.env = pure none := by
  cases v with
  | Tuple vs k p =>
    cases tg with
    | Tuple ts k2 p2 => exact sp_ok (by rw [g.sc]; exact of_decide_eq_true h)
    | List => cases h
    | _ => rfl
  | _ => cases tg <;> rfl
mutual
inductive S where
  | ret (e : E) | retN | expr (e : E)
  | asg (g : Tg) (e : E)
  | setLc (i : Nat) (own : List (Str × Nat)) (g : Tg) (w : Wk) (t : Oe) (elt : E)
  | setLc2 (i : Nat) (own : List (Str × Nat)) (g : Tg) (w : Wk) (t : Oe) (g1 : Tg) (w1 : Wk) (t1 : Oe) (elt : E)
  | par (i j : Nat) (es : Es)
  | par3 (i j l : Nat) (es : Es)
  | fld (o : E) (C : Addr) (f : Str) (v : E)
  | setI (o i v : E)
  | parI (n : Nat) (o i v : E)
  | parJ (n : Nat) (o i v : E)
  | parK (kd : DcK) (n : Nat) (o i v : E)
  | setK (kd : DcK) (o i v : E)
  | ife (t : E) (a b : Ss)
  | for_ (g : Tg) (w : Wk) (b : Ss)
  | while_ (t : E) (b : Ss)
  | never | pass | cont
inductive Ss where
  | nil
  | cons (s : S) (r : Ss)
end
mutual
def S.wp : S → WS
  | .ret e => wRet e.wp
  | .retN => wRetN
  | .expr e => wDrop e.wp
  | .asg g e => wAsg e.wp g
  | .setLc i own g w t elt => wAsg (wLc w.wp g t.wpT elt.wp (own.map (·.2))) (.name i)
  | .setLc2 i own g w t g1 w1 t1 elt => wAsg (wLc2 w.wp g t.wpT w1.wp g1 t1.wpT elt.wp (own.map (·.2)) g1.slots) (.name i)
  | .par i j es => wPar i j es.wp
  | .par3 i j l es => wPar3 i j l es.wp
  | .fld o C f v => wFldS C f o.wp v.wp
  | .setI o i v => wSetI o.wp i.wp v.wp
  | .parI n o i v => wParI n o.wp i.wp v.wp
  | .parJ n o i v => wParJ n o.wp i.wp v.wp
  | .parK kd n o i v => wParK kd n o.wp i.wp v.wp
  | .setK kd o i v => wSetK kd o.wp i.wp v.wp
  | .ife t a b => wIfS t.wpT a.wp b.wp
  | .for_ g w b => wFor w.wp g b.wp
  | .while_ t b => wWhile t.wpT b.wp
  | .never => wNever
  | .pass => wNext
  | .cont => wCont
def Ss.wp : Ss → WS
  | .nil => wNext
  | .cons s r => wSeq s.wp r.wp
end
mutual
def S.mt (c : Sc) : S → Stmt → Bool
  | .ret e, x => match x with
    | .Return (some v) _ => e.mt c v
    | _ => false
  | .retN, x => match x with
    | .Return none _ => true
    | _ => false
  | .expr e, x => match x with
    | .Expr v _ => e.mt c v && !isComp v
    | _ => false
  | .asg g e, x => match x with
    | .Assign [tg] v _ => g.mt c tg && (e.mt c v && (notStar tg && (swOk c tg v && spOk c tg v)))
    | _ => false
  | .setLc i own g w t elt, x => match x with
    | .Assign [.Name y py] (.ListComp el [⟨tg, iter, ifs, as⟩] scope pos) _ => decide (c.N[i]? = some y) && (decide (c.sc.names.lookup y = some .local) && (swN c scope y py pos && (decide (as = 0) && (blkC c.N c.sc scope own && (notSet iter && (w.mt c tg iter && (g.mt (c.blk scope) tg && (t.mtI (c.blk scope) ifs && (elt.mt (c.blk scope) el && g.slots.all fun j => (own.map (·.2)).contains j)))))))))
    | _ => false
  | .setLc2 i own g w t g1 w1 t1 elt, x => match x with
    | .Assign [.Name y py] (.ListComp el [⟨tg, iter, ifs, as⟩, ⟨tg1, iter1, ifs1, as1⟩] scope pos) _ => decide (c.N[i]? = some y) && (decide (c.sc.names.lookup y = some .local) && (swN c scope y py pos && (decide (as = 0) && (decide (as1 = 0) && (blkC c.N c.sc scope own && (notSet iter && (notSet iter1 && (w.mt c tg iter && (g.mt (c.blk scope) tg && (t.mtI (c.blk scope) ifs && (w1.mt (c.blk scope) tg1 iter1 && (g1.mt (c.blk scope) tg1 && (t1.mtI (c.blk scope) ifs1 && (elt.mt (c.blk scope) el && ((g.slots.all fun j => (own.map (·.2)).contains j) && g1.slots.all fun j => (own.map (·.2)).contains j)))))))))))))))
    | _ => false
  | .par i j es, x => match x with
    | .Assign [.Tuple [.Name y py, .Name z pz] _ _] (.Tuple [a, b] _ _) _ => decide (c.N[i]? = some y) && (decide (c.N[j]? = some z) && (decide (i ≠ j) && (decide (c.sc.names.lookup y = some .local) && (decide (c.sc.names.lookup z = some .local) && (es.mt c [a, b] && decide (spB [.Name y py, .Name z pz] [a, b] c.sc = some (some [y, z])))))))
    | _ => false
  | .par3 i j l es, x => match x with
    | .Assign [.Tuple [.Name y py, .Name z pz, .Name u pu] _ _] (.Tuple [a, b, d] _ _) _ => decide (c.N[i]? = some y) && (decide (c.N[j]? = some z) && (decide (c.N[l]? = some u) && (decide (i ≠ j ∧ i ≠ l ∧ j ≠ l) && (decide (c.sc.names.lookup y = some .local) && (decide (c.sc.names.lookup z = some .local) && (decide (c.sc.names.lookup u = some .local) && (es.mt c [a, b, d] && decide (spB [.Name y py, .Name z pz, .Name u pu] [a, b, d] c.sc = some (some [y, z, u])))))))))
    | _ => false
  | .fld o _ f v, x => match x with
    | .Assign [.Attribute y g _] z _ => decide (f = g) && (o.mt c y && (v.mt c z))
    | _ => false
  | .parI n o i v, x => match x with
    | .Assign [.Tuple [.Name y py, .Subscript a z pz] _ _] (.Tuple vs k2 p2) _ => tgB c n y && (o.mt c a && (i.mt c z && (v.mt c (.Tuple vs k2 p2) && (notSlice z && decide (spB [.Name y py, .Subscript a z pz] vs c.sc = some none)))))
    | _ => false
  | .parJ n o i v, x => match x with
    | .Assign [.Tuple [.Subscript a z pz, .Name y py] _ _] (.Tuple vs k2 p2) _ => tgB c n y && (o.mt c a && (i.mt c z && (v.mt c (.Tuple vs k2 p2) && (notSlice z && decide (spB [.Subscript a z pz, .Name y py] vs c.sc = some none)))))
    | _ => false
  | .parK _ n o i v, x => match x with
    | .Assign [.Tuple [.Subscript a z pz, .Name y py] _ _] (.Tuple vs k2 p2) _ => tgB c n y && (o.mt c a && (i.mt c z && (v.mt c (.Tuple vs k2 p2) && (notSlice z && decide (spB [.Subscript a z pz, .Name y py] vs c.sc = some none)))))
    | _ => false
  | .setI o i v, x => match x with
    | .Assign [.Subscript y z _] u _ => o.mt c y && (i.mt c z && (v.mt c u && notSlice z))
    | _ => false
  | .setK _ o i v, x => match x with
    | .Assign [.Subscript y z _] u _ => o.mt c y && (i.mt c z && (v.mt c u && notSlice z))
    | _ => false
  | .ife t a b, x => match x with
    | .If y p q _ => t.mt c y && (a.mt c p && b.mt c q)
    | _ => false
  | .for_ g w b, x => match x with
    | .For tg iter body [] _ => g.mt c tg && (w.mt c tg iter && (b.mt c body && notSet iter))
    | _ => false
  | .while_ t b, x => match x with
    | .While y body [] _ => t.mt c y && b.mt c body
    | _ => false
  | .never, _ => true
  | .pass, x => match x with
    | .Pass _ => true
    | _ => false
  | .cont, x => match x with
    | .Continue _ => true
    | _ => false
def Ss.mt (c : Sc) : Ss → List Stmt → Bool
  | .nil, xs => match xs with
    | [] => true
    | _ => false
  | .cons s r, xs => match xs with
    | x :: xs => s.mt c x && r.mt c xs
    | [] => false
end
mutual
def S.ok (k : Co) : S → Prop
  | .ret e => e.ok k
  | .expr e => e.ok k
  | .asg _ e => e.ok k
  | .setLc _ _ _ w t elt => w.ok k ∧ t.ok k ∧ elt.ok k
  | .setLc2 _ _ _ w t _ w1 t1 elt => w.ok k ∧ t.ok k ∧ w1.ok k ∧ t1.ok k ∧ elt.ok k
  | .par _ _ es => es.ok k
  | .par3 _ _ _ es => es.ok k
  | .fld o C f v => Cf k.K C f ∧ o.ok k ∧ v.ok k
  | .setI o i v => o.ok k ∧ i.ok k ∧ v.ok k
  | .parI _ o i v => o.ok k ∧ i.ok k ∧ v.ok k
  | .parJ _ o i v => o.ok k ∧ i.ok k ∧ v.ok k
  | .parK kd _ o i v => (match kd with | .k => True | .t P w => P = k.prog ∧ w = k.w) ∧ o.ok k ∧ i.ok k ∧ v.ok k
  | .setK kd o i v => (match kd with | .k => True | .t P w => P = k.prog ∧ w = k.w) ∧ o.ok k ∧ i.ok k ∧ v.ok k
  | .ife t a b => t.ok k ∧ a.ok k ∧ b.ok k
  | .for_ _ w b => w.ok k ∧ b.ok k
  | .while_ t b => t.ok k ∧ b.ok k
  | _ => True
def Ss.ok (k : Co) : Ss → Prop
  | .nil => True
  | .cons s r => s.ok k ∧ r.ok k
end
theorem swap_attr {c : Sc} {X : Cx} {v o : Expr} {f : Str} {p : Pos} {l : Nat} : swapsWith v (some (.Attribute o f p)) l X.env = pure false := by cases v <;> rfl
theorem swap_sub {c : Sc} {X : Cx} {v o i : Expr} {p : Pos} {l : Nat} : swapsWithSole [.Subscript o i p] v l X.env = pure false := by cases v <;> rfl
theorem sp_sub {X : Cx} {v o i : Expr} {p : Pos} : swappedStores [.Subscript o i p] v X.env = pure none := by cases v <;> rfl
theorem asg_one {tg : Expr} (h : notStar tg = true) (env : Env) : (assignEach [tg] env).map (·.2) = [assign tg env] := by cases tg <;> first | rfl | cases h
mutual
theorem S.snd : ∀ (s : S) {c : Sc} {X : Cx} (x : Stmt), Gd c X → PassesOwn (model X.prog X.w) X.A X.env X.xe → s.ok (co X) → s.mt c x = true → PS X x (tDS X.K s.wp)
  | .ret e, c, X, x, g, hp, ok, h => by
    unfold S.mt at h
    split at h
    · unfold S.ok at ok; unfold S.wp; exact psd_ret (e.snd _ g ok h)
    · cases h
  | .retN, c, X, x, g, hp, ok, h => by
    unfold S.mt at h
    split at h
    · unfold S.wp; exact psd_retN
    · cases h
  | .expr e, c, X, x, g, hp, ok, h => by
    unfold S.mt at h
    split at h
    · obtain ⟨h1, h2⟩ := band h
      unfold S.ok at ok; unfold S.wp; exact psd_expr (e.snd _ g ok h1) (swaps_plain (bnot h2) _ _ _)
    · cases h
  | .asg gt e, c, X, x, g, hp, ok, h => by
    unfold S.mt at h
    split at h
    · obtain ⟨h1, h2⟩ := band h
      obtain ⟨h2, h3⟩ := band h2
      obtain ⟨h3, h4⟩ := band h3
      obtain ⟨h4, h5⟩ := band h4
      unfold S.ok at ok; unfold S.wp
      exact psd_asg (e.snd _ g ok h2) (gt.snd g _ h1) (swOk_ok g h4 _) (spOk_ok g h5) (asg_one h3 _)
    · cases h
  | .setLc i own gt w t elt, c, X, x, g, hp, ok, h => by
    unfold S.mt at h
    split at h
    · obtain ⟨a1, h⟩ := band h
      obtain ⟨a2, h⟩ := band h
      obtain ⟨a3, h⟩ := band h
      obtain ⟨h1, h2⟩ := band h
      obtain ⟨h2, h3⟩ := band h2
      obtain ⟨h3, h4⟩ := band h3
      obtain ⟨h4, h5⟩ := band h4
      obtain ⟨h5, h6⟩ := band h5
      obtain ⟨h6, h7⟩ := band h6
      obtain ⟨h7, h8⟩ := band h7
      obtain rfl := of_decide_eq_true h1
      unfold S.ok at ok; unfold S.wp
      refine psd_setLc g.calm g.nd (by rw [g.n]; exact of_decide_eq_true a1) (by rw [g.sc]; exact of_decide_eq_true a2) (sw_lc g a3) (Wk.snd w _ _ g ok.1 h4) (blkOk_by (by rw [g.n, g.sc]; exact h2)) (fun s H C cl fp => Tg.snd (g.blk) gt _ h5) (fun s H C cl fp => Oe.sndI t _ (g.blk (s := s) (H := H) (cl := cl) (C := C) (fp := fp)) ok.2.1 h6) (fun s H C cl fp => E.snd elt _ (g.blk (s := s) (H := H) (cl := cl) (C := C) (fp := fp)) ok.2.2 h7) (fun v => set_plain h3 _ v) ?_
      intro j hj
      have := List.all_eq_true.mp h8 j hj
      simpa using this
    · cases h
  | .setLc2 i own gt w t gt1 w1 t1 elt, c, X, x, g, hp, ok, h => by
    unfold S.mt at h
    split at h
    · obtain ⟨a1, h⟩ := band h
      obtain ⟨a2, h⟩ := band h
      obtain ⟨a3, h⟩ := band h
      obtain ⟨h1, h⟩ := band h
      obtain ⟨h1b, h⟩ := band h
      obtain ⟨h2, h⟩ := band h
      obtain ⟨h3, h⟩ := band h
      obtain ⟨h3b, h⟩ := band h
      obtain ⟨h4, h⟩ := band h
      obtain ⟨h5, h⟩ := band h
      obtain ⟨h6, h⟩ := band h
      obtain ⟨h7, h⟩ := band h
      obtain ⟨h8, h⟩ := band h
      obtain ⟨h9, h⟩ := band h
      obtain ⟨h10, h⟩ := band h
      obtain ⟨h11, h12⟩ := band h
      obtain rfl := of_decide_eq_true h1
      obtain rfl := of_decide_eq_true h1b
      unfold S.ok at ok; unfold S.wp
      have c1 : ∀ j ∈ gt.slots, j ∈ own.map (·.2) := fun j hj => by
        have := List.all_eq_true.mp h11 j hj
        simpa using this
      have c2 : ∀ j ∈ gt1.slots, j ∈ own.map (·.2) := fun j hj => by
        have := List.all_eq_true.mp h12 j hj
        simpa using this
      exact psd_setLc2 g.calm g.nd (by rw [g.n]; exact of_decide_eq_true a1) (by rw [g.sc]; exact of_decide_eq_true a2) (sw_lc g a3) (Wk.snd w _ _ g ok.1 h4) (blkOk_by (by rw [g.n, g.sc]; exact h2)) c2 (fun s H C cl fp => Tg.snd (g.blk) gt _ h5) (fun s H C cl fp => Oe.sndI t _ (g.blk (s := s) (H := H) (cl := cl) (C := C) (fp := fp)) ok.2.1 h6)
        (fun s H C cl fp => Wk.snd w1 _ _ (g.blk (s := s) (H := H) (cl := cl) (C := C) (fp := fp)) ok.2.2.1 h7) (fun s H C cl fp => Tg.snd (g.blk) gt1 _ h8) (fun s H C cl fp => Oe.sndI t1 _ (g.blk (s := s) (H := H) (cl := cl) (C := C) (fp := fp)) ok.2.2.2.1 h9)
        (fun s H C cl fp => E.snd elt _ (g.blk (s := s) (H := H) (cl := cl) (C := C) (fp := fp)) ok.2.2.2.2 h10) (fun v => set_plain h3 _ v) (fun env v => set_plain h3b _ v) c1 (fun j hj => hj)
    · cases h
  | .par i j es, c, X, x, g, hp, ok, h => by
    unfold S.mt at h
    split at h
    · obtain ⟨h1, h2⟩ := band h
      obtain ⟨h2, h3⟩ := band h2
      obtain ⟨h3, h4⟩ := band h3
      obtain ⟨h4, h5⟩ := band h4
      obtain ⟨h5, h6⟩ := band h5
      obtain ⟨h6, h7⟩ := band h6
      unfold S.ok at ok; unfold S.wp
      exact psd_par (fun t ht => ps_par g.calm g.nd (by rw [g.n]; exact of_decide_eq_true h1) (by rw [g.n]; exact of_decide_eq_true h2) (of_decide_eq_true h3) (by rw [g.sc]; exact of_decide_eq_true h4) (by rw [g.sc]; exact of_decide_eq_true h5) ht (sp_ok (by rw [g.sc]; exact of_decide_eq_true h7))) (pdn_a (es.snd _ g ok h6).1)
    · cases h
  | .par3 i j l es, c, X, x, g, hp, ok, h => by
    unfold S.mt at h
    split at h
    · obtain ⟨h1, h2⟩ := band h
      obtain ⟨h2, h3⟩ := band h2
      obtain ⟨h3, h4⟩ := band h3
      obtain ⟨h4, h5⟩ := band h4
      obtain ⟨h5, h6⟩ := band h5
      obtain ⟨h6, h7⟩ := band h6
      obtain ⟨h7, h8⟩ := band h7
      obtain ⟨h8, h9⟩ := band h8
      have hd := of_decide_eq_true h4
      unfold S.ok at ok; unfold S.wp
      exact psd_par3 (fun t ht => ps_par3 g.calm g.nd (by rw [g.n]; exact of_decide_eq_true h1) (by rw [g.n]; exact of_decide_eq_true h2) (by rw [g.n]; exact of_decide_eq_true h3) hd.1 hd.2.1 hd.2.2 (by rw [g.sc]; exact of_decide_eq_true h5) (by rw [g.sc]; exact of_decide_eq_true h6) (by rw [g.sc]; exact of_decide_eq_true h7) ht (sp_ok (by rw [g.sc]; exact of_decide_eq_true h9))) (pdn_a (es.snd _ g ok h8).1)
    · cases h
  | .fld o C f v, c, X, x, g, hp, ok, h => by
    unfold S.mt at h
    split at h
    · obtain ⟨h1, h2⟩ := band h
      obtain ⟨h2, h3⟩ := band h2
      obtain rfl := of_decide_eq_true h1
      unfold S.ok at ok; unfold S.wp
      exact psd_fld ok.1 (o.snd _ g ok.2.1 h2) (v.snd _ g ok.2.2 h3) (swap_attr (c := c))
    · cases h
  | .parI n o i v, c, X, x, g, hp, ok, h => by
    unfold S.mt at h
    split at h
    · obtain ⟨h1, h2⟩ := band h
      obtain ⟨h2, h3⟩ := band h2
      obtain ⟨h3, h4⟩ := band h3
      obtain ⟨h4, h5⟩ := band h4
      obtain ⟨h5, h6⟩ := band h5
      unfold S.ok at ok; unfold S.wp
      exact psd_parI g.calm (g.name h1) (o.snd _ g ok.1 h2) (i.snd _ g ok.2.1 h3) (v.snd _ g ok.2.2 h4) h5 rfl (sp_ok (by rw [g.sc]; exact of_decide_eq_true h6))
    · cases h
  | .parJ n o i v, c, X, x, g, hp, ok, h => by
    unfold S.mt at h
    split at h
    · obtain ⟨h1, h2⟩ := band h
      obtain ⟨h2, h3⟩ := band h2
      obtain ⟨h3, h4⟩ := band h3
      obtain ⟨h4, h5⟩ := band h4
      obtain ⟨h5, h6⟩ := band h5
      unfold S.ok at ok; unfold S.wp
      exact psd_parJ g.calm (g.name h1) (o.snd _ g ok.1 h2) (i.snd _ g ok.2.1 h3) (v.snd _ g ok.2.2 h4) h5 rfl (sp_ok (by rw [g.sc]; exact of_decide_eq_true h6))
    · cases h
  | .parK kd n o i v, c, X, x, g, hp, ok, h => by
    unfold S.mt at h
    split at h
    · obtain ⟨h1, h2⟩ := band h
      obtain ⟨h2, h3⟩ := band h2
      obtain ⟨h3, h4⟩ := band h3
      obtain ⟨h4, h5⟩ := band h4
      obtain ⟨h5, h6⟩ := band h5
      unfold S.ok at ok; unfold S.wp
      exact psd_parK kd (by cases kd <;> exact ok.1) g.ru g.calm (g.name h1) (o.snd _ g ok.2.1 h2) (i.snd _ g ok.2.2.1 h3) (v.snd _ g ok.2.2.2 h4) h5 rfl (sp_ok (by rw [g.sc]; exact of_decide_eq_true h6))
    · cases h
  | .setI o i v, c, X, x, g, hp, ok, h => by
    unfold S.mt at h
    split at h
    · obtain ⟨h1, h2⟩ := band h
      obtain ⟨h2, h3⟩ := band h2
      obtain ⟨h3, h4⟩ := band h3
      unfold S.ok at ok; unfold S.wp
      exact psd_setI (o.snd _ g ok.1 h1) (i.snd _ g ok.2.1 h2) (v.snd _ g ok.2.2 h3) (swap_sub (c := c)) sp_sub h4
    · cases h
  | .setK kd o i v, c, X, x, g, hp, ok, h => by
    unfold S.mt at h
    split at h
    · obtain ⟨h1, h2⟩ := band h
      obtain ⟨h2, h3⟩ := band h2
      obtain ⟨h3, h4⟩ := band h3
      unfold S.ok at ok; unfold S.wp
      exact psd_setK kd (by cases kd <;> exact ok.1) g.ru (o.snd _ g ok.2.1 h1) (i.snd _ g ok.2.2.1 h2) (v.snd _ g ok.2.2.2 h3) (swap_sub (c := c)) sp_sub h4
    · cases h
  | .ife t a b, c, X, x, g, hp, ok, h => by
    unfold S.mt at h
    split at h
    · obtain ⟨h1, h2⟩ := band h
      obtain ⟨h2, h3⟩ := band h2
      unfold S.ok at ok; unfold S.wp
      exact psd_if (t.sndT _ g ok.1 h1) (Ss.snd a _ g hp ok.2.1 h2) (Ss.snd b _ g hp ok.2.2 h3)
    · cases h
  | .for_ gt w b, c, X, x, g, hp, ok, h => by
    unfold S.mt at h
    split at h
    · obtain ⟨h1, h2⟩ := band h
      obtain ⟨h2, h3⟩ := band h2
      obtain ⟨h3, h4⟩ := band h3
      unfold S.ok at ok; unfold S.wp
      exact psd_for hp g.calm (w.snd _ _ g ok.1 h2) (gt.snd g _ h1) (Ss.snd b _ g hp ok.2 h3) (fun v => set_plain h4 _ v)
    · cases h
  | .while_ t b, c, X, x, g, hp, ok, h => by
    unfold S.mt at h
    split at h
    · obtain ⟨h1, h2⟩ := band h
      unfold S.ok at ok; unfold S.wp
      exact psd_while hp (t.sndT _ g ok.1 h1) (Ss.snd b _ g hp ok.2 h2)
    · cases h
  | .never, c, X, x, g, hp, ok, h => by unfold S.wp; exact psd_never
  | .pass, c, X, x, g, hp, ok, h => by
    unfold S.mt at h
    split at h
    · unfold S.wp; exact psd_pass
    · cases h
  | .cont, c, X, x, g, hp, ok, h => by
    unfold S.mt at h
    split at h
    · unfold S.wp; exact psd_cont
    · cases h
theorem Ss.snd : ∀ (s : Ss) {c : Sc} {X : Cx} (x : List Stmt), Gd c X → PassesOwn (model X.prog X.w) X.A X.env X.xe → s.ok (co X) → s.mt c x = true → PSs X x (tDS X.K s.wp)
  | .nil, c, X, x, g, hp, ok, h => by
    unfold Ss.mt at h
    split at h
    · unfold Ss.wp; exact psd_nil
    · cases h
  | .cons s r, c, X, x, g, hp, ok, h => by
    unfold Ss.mt at h
    split at h
    · obtain ⟨h1, h2⟩ := band h
      unfold Ss.ok at ok; unfold Ss.wp
      exact psd_cons (S.snd s _ g hp ok.1 h1) (Ss.snd r _ g hp ok.2 h2)
    · cases h
end
/-! ### a def by its body -/
def startD (N : List Str) (ds : List D) : Ro := ds.map some ++ List.replicate (N.length - ds.length) none
theorem start_rep {K : PySem.W.Frag} {H : Hp} {N : List Str} {ds : List D} {vs : List V} (r : Reps K H ds vs) : RepS K H (L2.start N vs) (startD N ds) := by
  have el := r.length
  refine ⟨by unfold L2.start startD; simp [el], fun i d h => ?_⟩
  unfold startD at h
  by_cases hi : i < ds.length
  · rw [List.getElem?_append_left (by simpa using hi), List.getElem?_map] at h
    cases e : ds[i]? with
    | none => rw [e] at h; cases h
    | some d' =>
      rw [e] at h
      obtain rfl : d' = d := by simpa using h
      obtain ⟨v, e1, e2⟩ := r.get e
      refine ⟨v, ?_, e2⟩
      unfold L2.start
      rw [List.getElem?_append_left (by rw [List.length_map, ← el]; exact hi), List.getElem?_map, e1]
      rfl
  · rw [List.getElem?_append_right (by simpa using hi), List.getElem?_replicate] at h
    split at h <;> cases h
/-- what a body must do at its entry -/
def bodyEnds (Q : DQ) : DEnds := ⟨fun _ M => Q .non M, Q, fun _ _ => False, fun _ _ => False⟩
end DL

set_option Elab.async false
set_option linter.all false
set_option maxRecDepth 100000
set_option maxHeartbeats 4000000
/-! DLm: kinds of things; readings of data made short. -/
namespace DL
open PySem L2
/-- the classes of the text -/
structure Cs where
  House : Addr
  Net : Addr
  Striking : Addr
  Growing : Addr
  Yard : Addr
  Desk : Addr
  ex : Str → Addr
  P : Program
  w : World
def kindO : Option MO → Option String
  | some (.lst _) => some "list"
  | some (.dK _) => some "dict"
  | some (.dT _) => some "dict"
  | some .pot => some "list"
  | some (.scr _) => some "list"
  | _ => none
/-- the kind of a thing, where it is known -/
def kind (d : D) (M : Mp) : Option String := match d with
  | .non => some "NoneType"
  | .bl _ => some "bool"
  | .int _ => some "int"
  | .str _ => some "str"
  | .tup _ => some "tuple"
  | .ref a => kindO (M a)
  | .ty _ => none
def isaB (_ : Cs) (T : String) (d : D) (M : Mp) : Option Bool := (kind d M).map fun k => k == T || (k == "bool" && T == "int")
/-- the class of an instance -/
def insOf (d : D) (M : Mp) : Option Addr := match d with
  | .ref a => (match M a with
    | some (.ins C _) => some C
    | _ => none)
  | _ => none
def isaO (_ : Cs) (C : Addr) (d : D) (M : Mp) : Option Bool := match insOf d M with
  | some C' => if C' = C then some true else none
  | none => (kind d M).map fun _ => false
theorem insOf_eq {d : D} {M : Mp} {C : Addr} (h : insOf d M = some C) : ∃ a fs, d = .ref a ∧ M a = some (.ins C fs) := by
  unfold insOf at h
  split at h
  · split at h
    · rename_i e
      cases h
      exact ⟨_, _, rfl, e⟩
    · cases h
  · cases h
theorem kind_ty {K : PySem.W.Frag} {H : Hp} {M : Mp} {d : D} {v : V} {k : String} (m : RepM K H M) (r : Rep K H d v) (h : kind d M = some k) : TyX K H v (.type k) := by
  cases d with
  | non => cases r; cases h; exact .base .non
  | bl b => cases r; cases h; exact .base (.bl b)
  | int i => cases r; cases h; exact .base (.int i)
  | str x => cases r; cases h; exact .base (.str x)
  | ty n => cases h
  | tup ds =>
    cases h
    unfold Rep at r
    obtain ⟨a, vs, rfl, s, _⟩ := r
    rcases s with (s | ⟨o, s⟩) | ⟨o, its, n, s, c, _⟩
    · exact .base (.tup s)
    · exact .fTuple s
    · exact .kTuple s c
  | ref a =>
    cases r
    have h : kindO (M a) = some k := h
    cases e : M a with
    | none => rw [e] at h; cases h
    | some o =>
      rw [e] at h
      have q := m a o e
      cases o with
      | lst ds => obtain ⟨vs, q1, _⟩ := q; cases h; exact .base (.lst q1)
      | dK ds => obtain ⟨vs, q1, _⟩ := q; cases h; exact .base (.dK q1)
      | dT ds => obtain ⟨vs, q1, _⟩ := q; cases h; exact .base (.dT q1)
      | dX P w fs => cases h
      | ins C fs => cases h
      | pot => obtain ⟨g, n, q1, _⟩ := q; cases h; exact .base (.lst q1)
      | scr ns => obtain ⟨o, q1⟩ := q; cases h; exact .base (.frz q1)
      | tx ds => cases h
      | exo C d => cases h
      | exd fs => cases h
theorem kind_mem {d : D} {M : Mp} {k : String} (h : kind d M = some k) : k ∈ kindNames := by
  unfold kind at h
  split at h
  · cases h; decide
  · cases h; decide
  · cases h; decide
  · cases h; decide
  · cases h; decide
  · unfold kindO at h; split at h <;> first | (cases h; decide) | cases h
  · cases h
theorem kits : ∀ k ∈ kindNames, ∀ t ∈ tyNames, kitB k t = some (k == t || (k == "bool" && t == "int")) := by decide +kernel
theorem isaB_ok {k : Co} {c : Cs} {T : String} (hi : k.mg "isinstance" = none) (ht : k.mg (Str.ofString T) = none) (hT : T ∈ tyNames) : Isa k (.bty T) (isaB c T) := by
  refine ⟨hi, ht, fun H M d v b m r h => ?_⟩
  unfold isaB at h
  cases e : kind d M with
  | none => rw [e] at h; cases h
  | some q =>
    rw [e] at h
    have h' : (q == T || (q == "bool" && T == "int")) = b := Option.some.inj h
    exact ⟨.type q, .x (kind_ty m r e), kit_ty (by rw [← h']; exact kits q (kind_mem e) T hT)⟩
/-- what is asked of an own class -/
structure ClsF (K : PySem.W.Frag) (C : Addr) : Prop where
  cl : Cls K C
  ha : PySem.W.findIn K (.ref C) "__class__" = some (some (.builtin "object.__class__"))
  hn : PySem.W.specialIn K (.builtin "object.__class__") "__get__" = some (some (.builtin "getset_descriptor.__get__"))
  htk : PySem.W.takesIn K (.builtin "object.__class__") = some true
  hm : PySem.W.mroIn K C (.type "object") = some true
  ko : ∀ k ∈ kindNames, PySem.W.kitOne K (.type k) (.ref C) = some false
theorem isaO_ok {k : Co} {c : Cs} {x : Str} {C : Addr} (hi : k.mg "isinstance" = none) (hx : k.mg x = some (.ref C)) (hC : ClsF k.K C) : Isa k (.own x C) (isaO c C) := by
  refine ⟨hi, hx, fun H M d v b m r h => ?_⟩
  have plain : ∀ q, kind d M = some q → b = false → ∃ t, TyY k.K H v t ∧ PySem.W.kitOne k.K t (.ref C) = some b := fun q e hb => ⟨.type q, .x (kind_ty m r e), by rw [hb]; exact hC.ko q (kind_mem e)⟩
  have fin : (kind d M).map (fun _ => false) = some b → ∃ t, TyY k.K H v t ∧ PySem.W.kitOne k.K t (.ref C) = some b := fun h => by
    cases e : kind d M with
    | none => rw [e] at h; cases h
    | some q => rw [e] at h; exact plain q e (Option.some.inj h).symm
  unfold isaO at h
  cases e : insOf d M with
  | none => rw [e] at h; exact fin h
  | some C' =>
    rw [e] at h
    obtain ⟨a, fs, rfl, e1⟩ := insOf_eq e
    obtain ⟨dx, vs, q1, _⟩ := m a _ e1
    cases r
    have h2 : (if C' = C then some true else none) = some b := h
    by_cases hc : C' = C
    · subst hc
      rw [if_pos rfl] at h2
      cases h2
      refine ⟨.ref C', .x (.base (.ins q1 hC.cl hC.ha hC.hn hC.htk hC.hm)), ?_⟩
      show PySem.W.kitOne k.K (.ref C') (.ref C') = some true
      unfold PySem.W.kitOne
      rw [if_pos (by simp)]
    · rw [if_neg hc] at h2; cases h2
/-! ### two own classes, one no lesser than the other -/
/-- a thing's class, where it may be one of another own class -/
def isaW (_ : Cs) (C O : Addr) (d : D) (M : Mp) : Option Bool := match insOf d M with
  | some C' => if C' = C then some true else if C' = O then some false else none
  | none => (kind d M).map fun _ => false
def nfB (C O : Addr) (d : D) (M : Mp) : Bool := match insOf d M with
  | some C' => decide (C' = C) || decide (C' = O)
  | none => (kind d M).isSome
structure UnC (K : PySem.W.Frag) (C O : Addr) : Prop where
  kit : PySem.W.kitOne K (.ref O) (.ref C) = some false
  nfO : PySem.W.notFirst K C (.ref O) = true
  nfk : ∀ k ∈ kindNames, PySem.W.notFirst K C (.type k) = true
theorem UnC.ne {K : PySem.W.Frag} {C O : Addr} (h : UnC K C O) : O ≠ C := fun e => by
  subst e
  have := h.kit
  unfold PySem.W.kitOne at this
  rw [if_pos (by simp)] at this
  cases this
theorem insTy {K : PySem.W.Frag} {H : Hp} {M : Mp} {d : D} {v : V} {C : Addr} (m : RepM K H M) (r : Rep K H d v) (h : insOf d M = some C) (hC : ClsF K C) : TyX K H v (.ref C) := by
  obtain ⟨a, fs, rfl, e1⟩ := insOf_eq h
  obtain ⟨dx, vs, q1, _⟩ := m a _ e1
  cases r
  exact .base (.ins q1 hC.cl hC.ha hC.hn hC.htk hC.hm)
theorem isaW_ok {k : Co} {c : Cs} {x : Str} {C O : Addr} (hi : k.mg "isinstance" = none) (hx : k.mg x = some (.ref C)) (hC : ClsF k.K C) (hO : ClsF k.K O) (hu : UnC k.K C O) : Isa k (.own x C) (isaW c C O) := by
  refine ⟨hi, hx, fun H M d v b m r h => ?_⟩
  unfold isaW at h
  cases e : insOf d M with
  | none =>
    rw [e] at h
    cases e2 : kind d M with
    | none => rw [e2] at h; cases h
    | some q =>
      rw [e2] at h
      refine ⟨.type q, .x (kind_ty m r e2), ?_⟩
      rw [show b = false from (Option.some.inj h).symm]
      exact hC.ko q (kind_mem e2)
  | some C' =>
    rw [e] at h
    have h2 : (if C' = C then some true else if C' = O then some false else none) = some b := h
    by_cases hc : C' = C
    · subst hc
      rw [if_pos rfl] at h2
      cases h2
      refine ⟨_, .x (insTy m r e hC), ?_⟩
      show PySem.W.kitOne k.K (.ref C') (.ref C') = some true
      unfold PySem.W.kitOne
      rw [if_pos (by simp)]
    · rw [if_neg hc] at h2
      by_cases ho : C' = O
      · subst ho
        rw [if_pos rfl] at h2
        cases h2
        exact ⟨_, .x (insTy m r e hO), hu.kit⟩
      · rw [if_neg ho] at h2; cases h2
theorem nfB_ok {k : Co} {C O : Addr} (hC : ClsF k.K C) (hO : ClsF k.K O) (hu : UnC k.K C O) : NfM k C (nfB C O) := by
  refine ⟨fun H M d v m r h => ?_⟩
  unfold nfB at h
  cases e : insOf d M with
  | none =>
    rw [e] at h
    cases e2 : kind d M with
    | none => rw [e2] at h; cases h
    | some q => exact ⟨.type q, kind_ty m r e2, hu.nfk q (kind_mem e2)⟩
  | some C' =>
    rw [e] at h
    have h2 : (decide (C' = C) || decide (C' = O)) = true := h
    rw [Bool.or_eq_true, decide_eq_true_iff, decide_eq_true_iff] at h2
    rcases h2 with rfl | rfl
    · exact ⟨_, insTy m r e hC, by unfold PySem.W.notFirst; simp⟩
    · exact ⟨_, insTy m r e hO, hu.nfO⟩
/-! ### caught exceptions -/
structure ExS (K : PySem.W.Frag) (tv : Value) (ys ns : List Addr) : Prop where
  ys : ∀ C ∈ ys, ExcC K C ∧ PySem.W.kitOne K (.ref C) tv = some true
  ns : ∀ C ∈ ns, ExcC K C ∧ PySem.W.kitOne K (.ref C) tv = some false
  ks : ∀ k ∈ kindNames, PySem.W.kitOne K (.type k) tv = some false
end DL

set_option Elab.async false
set_option linter.all false
set_option maxRecDepth 100000
set_option maxHeartbeats 4000000
/-! DLn: lemmas for readings over data. -/
namespace DL
open PySem L2
/-- all that was there is there -/
def Keep (M M' : Mp) : Prop := ∀ a o, M a = some o → M' a = some o
theorem Keep.refl (M : Mp) : Keep M M := fun _ _ h => h
theorem Keep.trans {M M1 M2 : Mp} (a : Keep M M1) (b : Keep M1 M2) : Keep M M2 := fun x o h => b x o (a x o h)
theorem Keep.new {M : Mp} {p : Addr} {o : MO} (h : M p = none) : Keep M (up M p o) := fun a u e => by
  rw [up_ne]; exact e
  intro z; rw [z, h] at e; cases e
theorem Keep.put {M M1 : Mp} {p : Addr} {o : MO} (k : Keep M M1) (h : M p = none) : Keep M (up M1 p o) := fun a u e => by
  rw [up_ne]; exact k a u e
  intro z; rw [z, h] at e; cases e
theorem Keep.none {M M1 : Mp} {p : Addr} (k : Keep M M1) (h : M1 p = Option.none) : M p = Option.none := by
  cases e : M p with
  | none => rfl
  | some o => rw [k p o e] at h; cases h
/-- a thing whose kind is known -/
def kn (d : D) (M : Mp) : Prop := ∃ k, kind d M = some k
theorem kind_keep {d : D} {M M' : Mp} {k : String} (h : kind d M = some k) (q : Keep M M') : kind d M' = some k := by
  cases d <;> (try exact h)
  rename_i a
  have h : kindO (M a) = some k := h
  show kindO (M' a) = some k
  cases e : M a with
  | none => rw [e] at h; cases h
  | some o => rw [q a o e, ← e]; exact h
theorem kn.keep {d : D} {M M' : Mp} (h : kn d M) (q : Keep M M') : kn d M' := let ⟨k, e⟩ := h; ⟨k, kind_keep e q⟩
@[simp] theorem kn_int {i : Int} {M : Mp} : kn (.int i) M := ⟨_, rfl⟩
@[simp] theorem kn_tup {ds : List D} {M : Mp} : kn (.tup ds) M := ⟨_, rfl⟩
@[simp] theorem kn_str {x : Str} {M : Mp} : kn (.str x) M := ⟨_, rfl⟩
/-! ### targets -/
theorem asn_name {i : Nat} {d : D} {ρ : Ro} : (Tg.name i).asn d ρ = some (ρ.set i (some d)) := by unfold Tg.asn; rfl
theorem asn_tup {ts : Tgs} {ds : List D} {ρ : Ro} : (Tg.tup ts).asn (.tup ds) ρ = ts.asn ds ρ := by unfold Tg.asn; rfl
theorem asns_nil {ρ : Ro} : Tgs.nil.asn [] ρ = some ρ := by unfold Tgs.asn; rfl
theorem asns_name {i : Nat} {ts : Tgs} {d : D} {ds : List D} {ρ : Ro} : (Tgs.cons (.name i) ts).asn (d :: ds) ρ = ts.asn ds (ρ.set i (some d)) := by
  show (match (Tg.name i).asn d ρ with | some ρ' => ts.asn ds ρ' | none => none) = _
  rw [asn_name]
/-! ### loops by an invariant -/
theorem lcGo_inv {T : DIt} {g : Tg} {wt : WT} {we : WE} {ρ : Ro} {fin : List D → Mp → Prop} (J : List D → List D → Mp → Prop) (keep : ∀ done acc M, J done acc M → T.keep M) : ∀ (todo done acc : List D) (M : Mp), J done acc M →
    (∀ x ∈ todo, ∀ done acc M (k : List D → Mp → Prop), J done acc M → (∀ acc' M', J (done ++ [x]) acc' M' → k acc' M') → ∃ ρ1, g.asn x ρ = some ρ1 ∧ wt ρ1 M fun b M1 => if b = true then we ρ1 M1 fun d M2 => k (acc ++ [d]) M2 else k acc M1) →
    (∀ acc M, J (done ++ todo) acc M → fin acc M) → lcGo T g wt we ρ fin todo acc M
  | [], done, acc, M, h, _, hf => by
    unfold lcGo
    exact ⟨keep _ _ _ h, hf acc M (by rw [List.append_nil]; exact h)⟩
  | x :: xs, done, acc, M, h, hs, hf => by
    unfold lcGo
    refine ⟨keep _ _ _ h, hs x List.mem_cons_self done acc M (fun acc' M' => lcGo T g wt we ρ fin xs acc' M') h fun acc' M' h' => ?_⟩
    exact lcGo_inv J keep xs (done ++ [x]) acc' M' h' (fun y hy => hs y (List.mem_cons_of_mem _ hy)) fun acc M h => hf acc M (by rw [List.append_assoc] at h; exact h)
theorem forGo_inv {T : DIt} {g : Tg} {wb : WS} {D0 : DEnds} (J : List D → Ro → Mp → Prop) (keep : ∀ done ρ M, J done ρ M → T.keep M) : ∀ (todo done : List D) (ρ : Ro) (M : Mp), J done ρ M →
    (∀ x ∈ todo, ∀ done ρ M (k : Ro → Mp → Prop), J done ρ M → (∀ ρ' M', J (done ++ [x]) ρ' M' → k ρ' M') → ∃ ρ1, g.asn x ρ = some ρ1 ∧ wb { D0 with nx := k, ct := k, bk := D0.nx } ρ1 M) →
    (∀ ρ M, J (done ++ todo) ρ M → D0.nx ρ M) → forGo T g wb D0 todo ρ M
  | [], done, ρ, M, h, _, hf => by
    unfold forGo
    exact ⟨keep _ _ _ h, hf ρ M (by rw [List.append_nil]; exact h)⟩
  | x :: xs, done, ρ, M, h, hs, hf => by
    unfold forGo
    refine ⟨keep _ _ _ h, hs x List.mem_cons_self done ρ M (forGo T g wb D0 xs) h fun ρ' M' h' => ?_⟩
    exact forGo_inv J keep xs (done ++ [x]) ρ' M' h' (fun y hy => hs y (List.mem_cons_of_mem _ hy)) fun ρ M h => hf ρ M (by rw [List.append_assoc] at h; exact h)
/-- a comprehension whose element is a function of the item, the heap only grows -/
theorem lcGo_map {T : DIt} {g : Tg} {wt : WT} {we : WE} {ρ : Ro} {fin : List D → Mp → Prop} {M0 : Mp} (f : D → Option D) (keep : ∀ M, Keep M0 M → T.keep M) (todo : List D) (M : Mp) (hM : Keep M0 M)
    (hs : ∀ x ∈ todo, ∀ acc M (k : List D → Mp → Prop), Keep M0 M → (∀ M', Keep M0 M' → k (acc ++ (f x).toList) M') → ∃ ρ1, g.asn x ρ = some ρ1 ∧ wt ρ1 M fun b M1 => if b = true then we ρ1 M1 fun d M2 => k (acc ++ [d]) M2 else k acc M1)
    (hf : ∀ M, Keep M0 M → fin (todo.filterMap f) M) : lcGo T g wt we ρ fin todo [] M := by
  refine lcGo_inv (fun done acc M => acc = done.filterMap f ∧ Keep M0 M) (fun _ _ M h => keep M h.2) todo [] [] M ⟨rfl, hM⟩ (fun x hx done acc M k h hk => ?_) (fun acc M h => by rw [h.1]; exact hf M h.2)
  refine hs x hx acc M k h.2 fun M' hM' => hk _ M' ⟨?_, hM'⟩
  rw [h.1, List.filterMap_append]
  cases e : f x <;> simp [e]
theorem tru_bl {b k : Bool} {M : Mp} : truD (.bl b) M k = (k = b) := rfl
theorem tru_non {k : Bool} {M : Mp} : truD .non M k = (k = false) := rfl
theorem tru_int {i : Int} {k : Bool} {M : Mp} : truD (.int i) M k = (k = (i != 0)) := rfl
theorem tru_tup {ds : List D} {k : Bool} {M : Mp} : truD (.tup ds) M k = (k = !ds.isEmpty) := rfl
/-! ### operators on known data -/
theorem ord_int {o : Ord} {i j : Int} {M : Mp} {Q : DQ} (h : Q (.bl (match o with | .lt => decide (i < j) | .le => decide (i ≤ j) | .gt => decide (j < i) | .ge => decide (j ≤ i))) M) : ordD o (.int i) (.int j) M Q := .inl ⟨i, j, rfl, rfl, h⟩
theorem eq_plain {neg : Bool} {x y : D} {M : Mp} {Q : DQ} (hx : plain x = true) (hy : plain y = true) (sx : SeqAt.shaped (py x) = true) (sy : SeqAt.shaped (py y) = true) (h : Q (.bl (if neg then !PyData.eqv (py x) (py y) else PyData.eqv (py x) (py y))) M) : eqD neg x y M Q :=
  .inl ⟨py x, py y, .plain hx, .plain hy, sx, sy, h⟩
theorem eqv_int (i j : Int) : PyData.eqv (.int i) (.int j) = decide (i = j) := by
  simp only [PyData.eqv]
  by_cases h : i = j
  · simp [h]
  · simp [h]
theorem eq_int {neg : Bool} {i j : Int} {M : Mp} {Q : DQ} (h : Q (.bl (if neg then !decide (i = j) else decide (i = j))) M) : eqD neg (.int i) (.int j) M Q :=
  eq_plain rfl rfl rfl rfl (by simp only [py, eqv_int]; exact h)
theorem all_new {p : Addr} {bs : List Bool} {M : Mp} {Q : DQ} (h : Q (.bl (bs.all id)) (up M p (.lst (bs.map D.bl)))) : allS [.ref p] (up M p (.lst (bs.map D.bl))) Q := ⟨p, bs, rfl, up_same, h⟩
theorem any_new {p : Addr} {bs : List Bool} {M : Mp} {Q : DQ} (h : Q (.bl (bs.any id)) (up M p (.lst (bs.map D.bl)))) : anyS [.ref p] (up M p (.lst (bs.map D.bl))) Q := ⟨p, bs, rfl, up_same, h⟩
theorem tuple_new {p : Addr} {xs : List D} {M : Mp} {Q : DQ} (h : Q (.tup xs) (up M p (.lst xs))) : tupleS [.ref p] (up M p (.lst xs)) Q := ⟨_, xs, rfl, .inr ⟨p, rfl, up_same⟩, h⟩
theorem yes_if {ρ : Ro} {M : Mp} {A : Mp → Prop} {B : Mp → Prop} (h : A M) : wYes ρ M fun b M1 => if b = true then A M1 else B M1 := by
  show (if true = true then A M else B M)
  rw [if_pos rfl]
  exact h
/-- the loop part of all([..]): behind the walk T -/
theorem all_go {T : DIt} {g : Tg} {we : WE} {ρ : Ro} {M : Mp} {Q : DQ} (f : D → Bool) (keep : ∀ M2, Keep M M2 → T.keep M2)
    (hs : ∀ x ∈ T.items, ∀ M2 (k : D → Mp → Prop), Keep M M2 → (∀ M3, Keep M M3 → k (.bl (f x)) M3) → ∃ ρ1, g.asn x ρ = some ρ1 ∧ we ρ1 M2 k) (hq : ∀ M2, Keep M M2 → Q (.bl (T.items.all f)) M2) :
    lcGo T g wYes we ρ (fun acc M2 => ∀ p, M2 p = none → allS [.ref p] (up M2 p (.lst acc)) Q) T.items [] M := by
  refine lcGo_map (M0 := M) (fun x => some (.bl (f x))) keep T.items M (.refl M) (fun x hx acc M2 k h2 hk => ?_) fun M2 h2 p hp => ?_
  · obtain ⟨ρ1, e, w⟩ := hs x hx M2 (fun d M3 => k (acc ++ [d]) M3) h2 fun M3 h3 => hk M3 h3
    exact ⟨ρ1, e, yes_if w⟩
  · have e : T.items.filterMap (fun x => some (D.bl (f x))) = (T.items.map f).map D.bl := by rw [List.filterMap_eq_map', List.map_map]; rfl
    rw [e]
    refine all_new ?_
    rw [List.all_map]
    exact hq _ (h2.trans (.new hp))
theorem any_go {T : DIt} {g : Tg} {we : WE} {ρ : Ro} {M : Mp} {Q : DQ} (f : D → Bool) (keep : ∀ M2, Keep M M2 → T.keep M2)
    (hs : ∀ x ∈ T.items, ∀ M2 (k : D → Mp → Prop), Keep M M2 → (∀ M3, Keep M M3 → k (.bl (f x)) M3) → ∃ ρ1, g.asn x ρ = some ρ1 ∧ we ρ1 M2 k) (hq : ∀ M2, Keep M M2 → Q (.bl (T.items.any f)) M2) :
    lcGo T g wYes we ρ (fun acc M2 => ∀ p, M2 p = none → anyS [.ref p] (up M2 p (.lst acc)) Q) T.items [] M := by
  refine lcGo_map (M0 := M) (fun x => some (.bl (f x))) keep T.items M (.refl M) (fun x hx acc M2 k h2 hk => ?_) fun M2 h2 p hp => ?_
  · obtain ⟨ρ1, e, w⟩ := hs x hx M2 (fun d M3 => k (acc ++ [d]) M3) h2 fun M3 h3 => hk M3 h3
    exact ⟨ρ1, e, yes_if w⟩
  · have e : T.items.filterMap (fun x => some (D.bl (f x))) = (T.items.map f).map D.bl := by rw [List.filterMap_eq_map', List.map_map]; rfl
    rw [e]
    refine any_new ?_
    rw [List.any_map]
    exact hq _ (h2.trans (.new hp))
end DL

set_option Elab.async false
set_option linter.all false
set_option maxRecDepth 100000
set_option maxHeartbeats 4000000
/-! DLo: a def by its body, sizes told at its entry. -/
namespace DL
open PySem L2
mutual
/-- no tuple in it is too long -/
def sz : D → Prop
  | .tup ds => ds.length ≤ sizeLine ∧ szs ds
  | _ => True
def szs : List D → Prop
  | [] => True
  | d :: ds => sz d ∧ szs ds
end
theorem szs_mem : ∀ {ds : List D} {d : D}, szs ds → d ∈ ds → sz d
  | [], _, _, h => by cases h
  | e :: ds, d, h, hm => by
    unfold szs at h
    rcases List.mem_cons.mp hm with rfl | hm
    · exact h.1
    · exact szs_mem h.2 hm
theorem sz_tup {ds : List D} (h : sz (.tup ds)) : ds.length ≤ sizeLine ∧ ∀ d ∈ ds, sz d := by
  unfold sz at h
  exact ⟨h.1, fun d hd => szs_mem h.2 hd⟩
def szM (M : Mp) : Prop := ∀ a ds, M a = some (.lst ds) → ds.length ≤ sizeLine ∧ ∀ d ∈ ds, sz d
structure Sz (K : PySem.W.Frag) (H : Hp) : Prop where
  t : ∀ a xs, SqT K H a xs → xs.length ≤ sizeLine
  l : ∀ a xs, SqL K H a xs → xs.length ≤ sizeLine
mutual
theorem Rep.sz {K : PySem.W.Frag} {H : Hp} (z : Sz K H) : ∀ {d : D} {v : V}, Rep K H d v → DL.sz d
  | .non, _, _ => by unfold DL.sz; trivial
  | .bl _, _, _ => by unfold DL.sz; trivial
  | .int _, _, _ => by unfold DL.sz; trivial
  | .str _, _, _ => by unfold DL.sz; trivial
  | .ty _, _, _ => by unfold DL.sz; trivial
  | .ref _, _, _ => by unfold DL.sz; trivial
  | .tup ds, _, h => by
    unfold Rep at h
    obtain ⟨a, vs, _, s, r⟩ := h
    unfold DL.sz
    exact ⟨by rw [r.length]; exact z.t _ _ s, Reps.sz z r⟩
theorem Reps.sz {K : PySem.W.Frag} {H : Hp} (z : Sz K H) : ∀ {ds : List D} {vs : List V}, Reps K H ds vs → DL.szs ds
  | [], _, _ => by unfold DL.szs; trivial
  | d :: ds, _, h => by
    unfold Reps at h
    obtain ⟨v, r, _, h1, h2⟩ := h
    unfold DL.szs
    exact ⟨Rep.sz z h1, Reps.sz z h2⟩
end
theorem RepM.sz {K : PySem.W.Frag} {H : Hp} {M : Mp} (z : Sz K H) (m : RepM K H M) : szM M := fun a ds e => by
  obtain ⟨vs, h1, r⟩ := m a _ e
  exact ⟨by rw [r.length]; exact z.l a vs (.of h1), fun d hd => szs_mem (Reps.sz z r) hd⟩
theorem pss_sz {X : Cx} {st : List Stmt} {t : TS} (h : PSs X st t) : PSs X st (fun D σ H => Sz X.K H → t D σ H) := ⟨fun pins s σ H D I q => h.run pins s σ H D I (q ⟨fun a xs e => let ⟨_, _, _, z⟩ := I.tuple e; z, fun a xs e => let ⟨_, _, _, z⟩ := I.list e; z⟩)⟩
theorem fn_okG {P : Program} {w : World} {K : PySem.W.Frag} {mg : Str → Option Value} {base : Heap} {x qual : Str} {params : Arguments} {body : List Stmt} {scope : Scope} {dvs : List V} {kws : List (Str × V)} {f : Addr} {fd : FuncData} {N ps : List Str} {k : Nat} {S : Spec} (F : FunD K x qual params body scope dvs kws f fd)
    (sc : FnScope N ps scope) (b : Ss) (hl : ∀ ds M Q, S ds M Q → ds.length = ps.length) (hm : b.mt ⟨N, scope, fun _ => true⟩ body = true) (hok : ∀ A, Room k A → b.ok ⟨P, w, K, mg, base, A⟩)
    (hwp : ∀ H ds M Fr Q, szs ds → szM M → RepM K H M → FrOk Fr H M → S ds M Q → ∃ M1 Q1, RepM K H M1 ∧ FrOk Fr H M1 ∧ b.wp (bodyEnds Q1) (startD N ds) M1 ∧ ∀ d M' H', Q1 d M' → RepM K H' M' → Frm Fr H H' M' → ∃ M2, RepM K H' M2 ∧ Frm Fr H H' M2 ∧ Q d M2) :
    FnOk P w K mg base CX0 (k + 1) f fd ps (spD K S) := by
  refine F.ok sc (fun vs H Q E h => rDL.len hl h) (fun cdv A outer s H vs Q E hr h => ?_)
  refine ⟨_, PSs.nox (pss_sz (b.snd (c := ⟨N, scope, fun _ => true⟩) _ ⟨rfl, sc.nd, rfl, rfl, rfl, ?_⟩ PassesOwn.never (hok _ hr) hm)), fun z => ?_⟩
  · have := hr.un
    show (A.deeper _).units + 65 < cLine
    omega
  · obtain ⟨ds, M, Fr, Q0, r, m, fr, h, g⟩ := h
    obtain ⟨M1, Q1, m1, fr1, hb, back⟩ := hwp H ds M Fr Q0 (Reps.sz z r) (RepM.sz z m) m fr h
    refine ⟨startD N ds, M1, Fr, _, ⟨start_rep r, m1, fr1⟩, hb, ?_⟩
    have fin : ∀ d M' v H', Q1 d M' → TupS K H H' → Frm Fr H H' M' → RepM K H' M' → Rep K H' d v → Q v H' := fun d M' v H' q t f r p => by
      obtain ⟨M2, m2, f2, q2⟩ := back d M' H' q r f
      exact g d M2 v H' q2 t f2 m2 p
    exact ⟨fun ρ' M' σ' H' q t f s => fin .non M' .non H' q t f s.rm rfl, fin, fun _ _ _ _ q _ _ _ => q.elim, fun _ _ _ _ q _ _ _ => q.elim⟩
/-- the plain case -/
theorem fn_okP {P : Program} {w : World} {K : PySem.W.Frag} {mg : Str → Option Value} {base : Heap} {x qual : Str} {params : Arguments} {body : List Stmt} {scope : Scope} {dvs : List V} {kws : List (Str × V)} {f : Addr} {fd : FuncData} {N ps : List Str} {k : Nat} {S : Spec} (F : FunD K x qual params body scope dvs kws f fd)
    (sc : FnScope N ps scope) (b : Ss) (hl : ∀ ds M Q, S ds M Q → ds.length = ps.length) (hm : b.mt ⟨N, scope, fun _ => true⟩ body = true) (hok : ∀ A, Room k A → b.ok ⟨P, w, K, mg, base, A⟩)
    (hwp : ∀ ds M Q, szs ds → szM M → S ds M Q → b.wp (bodyEnds Q) (startD N ds) M) : FnOk P w K mg base CX0 (k + 1) f fd ps (spD K S) :=
  fn_okG F sc b hl hm hok fun H ds M Fr Q z zm m fr h => ⟨M, Q, m, fr, hwp ds M Q z zm h, fun d M' H' q r f => ⟨M', r, f, q⟩⟩
end DL

set_option Elab.async false
set_option linter.all false
set_option maxRecDepth 100000
set_option maxHeartbeats 8000000
/-! DLp: defs that know that no repr is under way; the law's end for them. -/
namespace DL
open PySem PySem.Spec PyProof.Rows L2
structure FnG (P : Program) (w : World) (K : PySem.W.Frag) (mg : Str → Option Value) (base : Heap) (k : Nat) (f : Addr) (fd : FuncData) (ps : List Str) (S : Spec) : Prop where
  len : ∀ ds M Q, S ds M Q → ds.length = ps.length
  run : ∀ (A : Around) (outer : List Env) (s : Shared) (H : Hp) (args : Args) (us : List Value) (vs : List V) (Q : VK) (E : XK), Room k A → A.guards = some [] → Env0 P w K mg base A outer s H → BindsTo s fd args (ps.zip us) → Vals vs us → rDL K S vs H Q →
    codeAny (model P w) A (.call (.ref f) args) (CR CX0 outer P w H s Q E) s
theorem fn_G {P : Program} {w : World} {K : PySem.W.Frag} {mg : Str → Option Value} {base : Heap} {x qual : Str} {params : Arguments} {body : List Stmt} {scope : Scope} {dvs : List V} {kws : List (Str × V)} {f : Addr} {fd : FuncData} {N ps : List Str} {k : Nat} {S : Spec} (F : FunD K x qual params body scope dvs kws f fd)
    (sc : FnScope N ps scope) (b : Ss) (hl : ∀ ds M Q, S ds M Q → ds.length = ps.length) (hm : b.mt ⟨N, scope, fun _ => true⟩ body = true) (hok : ∀ A, Room k A → A.guards = some [] → b.ok ⟨P, w, K, mg, base, A⟩)
    (hwp : ∀ ds M Q, szs ds → szM M → S ds M Q → b.wp (bodyEnds Q) (startD N ds) M) : FnG P w K mg base (k + 1) f fd ps S := by
  obtain ⟨oc, od, dV, kV, doc, pm, an, cdv, ct, osl, rfl, lk, hcd, _, _⟩ := F.ex
  refine ⟨hl, fun A outer s H args us vs Q E hr hg e0 hb r hsp => ?_⟩
  have hlen := rDL.len hl hsp
  have kIn : K.In s.heap := e0.mod.kin.keeps fun b o e => (e0.bs b o e).1
  have kinds : ∀ y ∈ ps.zip us, scope.names.lookup y.1 = some .local ∨ (scope.names.lookup y.1 = some .cell ∧ ((cellsFrom (s.heap.objs.size + 1) scope.names []).lookup y.1).isSome = true) := fun ⟨n, v⟩ hy =>
    (sc.par n (List.of_mem_zip hy).1).imp id fun q => ⟨q, PySem.W.cellsFrom_some _ _ _ (.inl q)⟩
  refine codeAny_call_function hr.depth (kIn _ _ lk) rfl sc.co sc.gen rfl (PySem.W.codeRec_of kIn hcd) (hb _ _ _ _ ?_)
  refine wpAny_newFunctionEnv_cells sc.kind kinds fun env he s1 x => ?_
  subst he
  refine ⟨(e0.mod.nolimit.keeps fun b o e => (e0.bs b o e).1).keeps x.toInCall.keep, codeAny_func ?_⟩
  have hr' := hr.deeper (envOfC qual scope s.heap.objs.size f cdv)
  have I : Inv (cxOf CX0 P w K mg base N qual scope f cdv A outer s H E) [] (L2.start N vs) H s1 := inv_start sc hr.hd e0 hlen r x
  have hb' := PSs.nox (pss_sz (b.snd (c := ⟨N, scope, fun _ => true⟩) (X := (cxOf CX0 P w K mg base N qual scope f cdv A outer s H E).nox) _ ⟨rfl, sc.nd, rfl, rfl, rfl, by have := hr'.un; show (A.deeper _).units + 65 < cLine; omega⟩ PassesOwn.never (hok _ hr' hg) hm))
  refine wpAny_mono (hb'.run [] s1 (L2.start N vs) H { nx := fun _ H' => Q .non H', rt := Q } I ?_) (fun fl s' hs => ?_) fun e s' hs => hs
  · intro z
    obtain ⟨ds, M, Fr, Q0, r, m, fr, h, g⟩ := hsp
    refine ⟨startD N ds, M, Fr, _, ⟨start_rep r, m, fr⟩, hwp ds M Q0 (Reps.sz z r) (RepM.sz z m) h, ?_⟩
    exact ⟨fun ρ' M' σ' H' q t f s => g .non M' .non H' q t f s.rm rfl, fun d M' v H' q t f r p => g d M' v H' q t f r p, fun _ _ _ _ q _ _ _ => q.elim, fun _ _ _ _ q _ _ _ => q.elim⟩
  · cases fl with
    | ret u =>
      obtain ⟨v, σ', H', J, rv, q⟩ := hs
      exact ⟨v, H', J.os, J.bare, J.base, J.hok, rv, q⟩
    | next =>
      obtain ⟨σ', H', J, q⟩ := hs
      exact ⟨V.non, H', J.os, J.bare, J.base, J.hok, rfl, q⟩
    | brk => obtain ⟨_, _, _, q⟩ := hs; exact q.elim
    | cont => obtain ⟨_, _, _, q⟩ := hs; exact q.elim
theorem Callee.fnG {c : Co} {x : Str} {n k : Nat} {S : Spec} {f : Addr} {fd : FuncData} {ps : List Str} (F : FnG c.prog c.w c.K c.mg c.base k f fd ps S) (hr : Room k c.A) (hg : c.A.guards = some []) (hm : c.mg x = some (.ref f)) (hk : PySem.W.keepIn c.K (.ref f) = true) (hb : Binds c.K fd ps []) : Callee c x n [] S := by
  refine ⟨f, hm, hk, ?_⟩
  rintro X rfl hc pins s σ H Q us ws vs zs I r rz hl hz h
  have e : zs = [] := List.eq_nil_of_length_eq_zero hz
  subst e
  cases rz
  rw [List.append_nil] at h
  have hl : us.length = ps.length := by rw [← r.length]; exact rDL.len F.len h
  have hb' := hb s us I.kIn (by rw [List.append_nil]; exact hl)
  rw [List.append_nil] at hb'
  refine wpAny_call (codeAny_mono (F.run X.A X.stack s H ⟨us, []⟩ us vs Q (fun _ _ _ => False) hr hg I.env0 hb' r h) fun r s' hq => ?_)
  cases r with
  | error e => exact pass0 pins σ H s e s' I hq
  | ok fl =>
    cases fl with
    | ret u => exact I.after hq
    | next => exact False.elim hq
    | brk => exact False.elim hq
    | cont => exact False.elim hq
/-! ### the law's end -/
theorem law_end {P : Program} {w : World} {K : PySem.W.Frag} {mg mb : Str → Option Value} {k : Nat} {fa a : Addr} {fd : FuncData} {x : Str} {S : Spec} {s₁ : Shared} {vs : List Value} {ns : List Int}
    (kin : K.In s₁.heap) (hns : s₁.heap.Ns mainGlobals mg) (hb : s₁.heap.Ns builtinsNs mb) (hbb : ∀ x : Str, x ≠ "__name__" → mb x = bootBuiltins x) (hlim : s₁.heap.NoLimit) (hdig : s₁.heap.NoDigits) (hg : s₁.gens = #[])
    (ha : s₁.heap.get? a = some { cls := .type "list", data := .seq vs.toArray }) (hi : IntsAre vs ns) (hl : ns.length ≤ sizeLine) (hr : Room k callerA) (hka : K.lookup a = none)
    (F : ∀ base : Heap, K.In base → base.Ns mainGlobals mg → base.NoDigits → FnG P w K mg base k fa fd [x] S) (hbind : ∀ (s : Shared) (u : Value), BindsTo s fd ⟨[u], []⟩ [(x, u)])
    (hS : ∀ (a : Addr) (M : Mp), M a = some (.scr ns) → S [.ref a] M fun d _ => d = .bl true) :
    codeAny (model P w) callerA (.call (.ref fa) ⟨[.ref a], []⟩) (fun r s' => r = .ok (.ret (.bool true)) ∧ OldK s₁.heap s'.heap ∧ s'.os = s₁.os ∧ AllBare s'.gens) s₁ := by
  have rv := vals_ints hi
  let o : Obj := { cls := .type "list", data := .seq vs.toArray }
  let H : Hp := fun b => if b = a then some (.frz o (.lst (ns.map V.int))) else none
  have Ha : H a = some (.frz o (.lst (ns.map V.int))) := if_pos rfl
  have Hn : ∀ b, b ≠ a → H b = none := fun b hb => if_neg hb
  have hok : HOk P w H s₁.heap := fun b u z => by
    by_cases e : b = a
    · subst e
      rw [Ha] at z
      cases z
      exact ⟨ha, by rw [List.length_map]; exact hl, vs, _, rv, ha⟩
    · rw [Hn b e] at z; cases z
  have at_ : ∀ {b : Addr} {m : Str → Option Value}, s₁.heap.Ns b m → (hidT s₁.heap H).Ns b m := fun {b m} ⟨o', es, ep, e, d, r⟩ => ⟨o', es, ep, hidT_get e (Hn b fun z => by
    subst z
    rw [ha] at e
    cases e
    cases d), d, r⟩
  have kb : K.In (hidT s₁.heap H) := fun b u e => hidT_get (kin b u e) (Hn b fun z => by subst z; rw [hka] at e; cases e)
  have mod : Mod K mg (hidT s₁.heap H) := ⟨kb, at_ hns, ⟨mb, at_ hb, hbb⟩, let ⟨mc, h1, h2⟩ := hlim; ⟨mc, at_ h1, h2⟩⟩
  have e0 : Env0 P w K mg (hidT s₁.heap H) callerA [] s₁ H := ⟨rfl, mod, fun b o e => of_hidT e, Nat.le_of_eq (hidT_size _ _), trivial, fun b hb => absurd (show b ∈ ([] : List Addr) from hb) (by simp), hok, .of_eq hg⟩
  let M : Mp := fun b => if b = a then some (.scr ns) else none
  have m : RepM K H M := fun b u z => by
    by_cases e : b = a
    · subst e
      have z' := (if_pos rfl).symm.trans z
      cases z'
      exact ⟨o, Ha⟩
    · have z' := (if_neg e).symm.trans z
      cases z'
  have want : rDL K S [.ref a] H fun v _ => v = .bl true :=
    ⟨[.ref a], M, (fun _ => False), _, .cons rfl .nil, m, (fun _ h => h.elim), hS a M (if_pos rfl), fun d M' v H' q t f r p => by subst q; exact p⟩
  refine codeAny_mono ((F _ kb (at_ hns) (let ⟨mc, h1, h2⟩ := hdig; ⟨mc, at_ h1, h2⟩)).run callerA [] s₁ H ⟨[.ref a], []⟩ [.ref a] [.ref a] _ (fun _ _ _ => False) hr rfl e0 (hbind s₁ (.ref a)) (.cons rfl .nil) want) fun r s' h => ?_
  cases r with
  | error e => exact h.elim
  | ok fl =>
    cases fl with
    | next => exact False.elim h
    | brk => exact False.elim h
    | cont => exact False.elim h
    | ret u =>
      obtain ⟨v, H', os, bare, un, hok', r', q⟩ := h
      have q' : v = .bl true := q
      subst q'
      obtain rfl : u = Value.bool true := r'
      refine ⟨rfl, OldK.of_keep fun b u e => ?_, os, bare⟩
      by_cases eb : b = a
      · subst eb
        obtain ⟨e2, _⟩ := hok' b _ (un.frzs b o _ Ha)
        rw [ha] at e
        cases e
        exact e2
      · exact un.keep b u e (Hn b eb) (by intro z; exact absurd (show b ∈ ([] : List Addr) from z) (by simp)) (by simp)
end DL

set_option Elab.async false
set_option linter.all false
set_option maxRecDepth 100000
set_option maxHeartbeats 4000000
/-! W1: the module plain. -/
local macro_rules | `(tactic| simp only [wW]) => `(tactic| simp only [DL.Ss.wp, DL.S.wp, DL.E.wp, DL.E.wpT, DL.Es.wp, DL.Es.wpV, DL.Es.wpT, DL.Oe.wpO, DL.Oe.wpT, DL.Wk.wp, DL.wSeq, DL.wRet, DL.wRetN, DL.wNext, DL.wNever, DL.wDrop, DL.wAsg, DL.wIfS, DL.wFor, DL.wPar, DL.wPar3, DL.wParJ, DL.wParK, DL.wUpdX, DL.wFldS, DL.wSetI, DL.wSetK, DL.wDnew, DL.wDlit, DL.wMeth, DL.wBm, DL.wIxX, DL.wZipL, DL.wZipLT, DL.wItemsL, DL.wAndV, DL.wOrV, DL.wNotV, DL.wAnd, DL.wOr, DL.wNot, DL.wIfB, DL.wTest, DL.wTru, DL.wIf, DL.w1, DL.w2, DL.w3, DL.wVar, DL.wC, DL.wNil, DL.wCons, DL.wTup, DL.wLst, DL.wCall, DL.wCallK, DL.wO0, DL.wO1, DL.wSl, DL.wStep, DL.wLc, DL.wISeq, DL.wIR1, DL.wIR2, DL.wIZip, DL.wIStr, DL.wIEn, DL.wDc, DL.DcK.emp, DL.Wk.wp, DL.binF, DL.cmpF, DL.isaD, DL.negD, DL.Blt.spec, DL.Bm.spec, DL.Bm.ty, List.getElem?_cons_zero, List.getElem?_cons_succ, Option.some.injEq, exists_eq_left', exists_eq_left, exists_and_left, List.set_cons_zero, List.set_cons_succ, DL.asn_name, DL.asn_tup, DL.asns_nil, DL.asns_name, DL.wipeD, DL.tru_bl, DL.tru_int, DL.tru_non, DL.tru_tup, DL.bodyEnds, List.map_cons, List.map_nil, ↓reduceIte, Bool.false_eq_true, and_true, true_and, DL.D.str.injEq, DL.D.int.injEq, DL.D.ref.injEq, DL.D.tup.injEq, DL.D.bl.injEq]) | `(tactic| simp only [wW, $ts,*]) => `(tactic| simp only [DL.Ss.wp, DL.S.wp, DL.E.wp, DL.E.wpT, DL.Es.wp, DL.Es.wpV, DL.Es.wpT, DL.Oe.wpO, DL.Oe.wpT, DL.Wk.wp, DL.wSeq, DL.wRet, DL.wRetN, DL.wNext, DL.wNever, DL.wDrop, DL.wAsg, DL.wIfS, DL.wFor, DL.wPar, DL.wPar3, DL.wParJ, DL.wParK, DL.wUpdX, DL.wFldS, DL.wSetI, DL.wSetK, DL.wDnew, DL.wDlit, DL.wMeth, DL.wBm, DL.wIxX, DL.wZipL, DL.wZipLT, DL.wItemsL, DL.wAndV, DL.wOrV, DL.wNotV, DL.wAnd, DL.wOr, DL.wNot, DL.wIfB, DL.wTest, DL.wTru, DL.wIf, DL.w1, DL.w2, DL.w3, DL.wVar, DL.wC, DL.wNil, DL.wCons, DL.wTup, DL.wLst, DL.wCall, DL.wCallK, DL.wO0, DL.wO1, DL.wSl, DL.wStep, DL.wLc, DL.wISeq, DL.wIR1, DL.wIR2, DL.wIZip, DL.wIStr, DL.wIEn, DL.wDc, DL.DcK.emp, DL.Wk.wp, DL.binF, DL.cmpF, DL.isaD, DL.negD, DL.Blt.spec, DL.Bm.spec, DL.Bm.ty, List.getElem?_cons_zero, List.getElem?_cons_succ, Option.some.injEq, exists_eq_left', exists_eq_left, exists_and_left, List.set_cons_zero, List.set_cons_succ, DL.asn_name, DL.asn_tup, DL.asns_nil, DL.asns_name, DL.wipeD, DL.tru_bl, DL.tru_int, DL.tru_non, DL.tru_tup, DL.bodyEnds, List.map_cons, List.map_nil, ↓reduceIte, Bool.false_eq_true, and_true, true_and, DL.D.str.injEq, DL.D.int.injEq, DL.D.ref.injEq, DL.D.tup.injEq, DL.D.bl.injEq, $ts,*]) | `(tactic| simp only [wW, $ts,*] at $h:ident) => `(tactic| simp only [DL.Ss.wp, DL.S.wp, DL.E.wp, DL.E.wpT, DL.Es.wp, DL.Es.wpV, DL.Es.wpT, DL.Oe.wpO, DL.Oe.wpT, DL.Wk.wp, DL.wSeq, DL.wRet, DL.wRetN, DL.wNext, DL.wNever, DL.wDrop, DL.wAsg, DL.wIfS, DL.wFor, DL.wPar, DL.wPar3, DL.wParJ, DL.wParK, DL.wUpdX, DL.wFldS, DL.wSetI, DL.wSetK, DL.wDnew, DL.wDlit, DL.wMeth, DL.wBm, DL.wIxX, DL.wZipL, DL.wZipLT, DL.wItemsL, DL.wAndV, DL.wOrV, DL.wNotV, DL.wAnd, DL.wOr, DL.wNot, DL.wIfB, DL.wTest, DL.wTru, DL.wIf, DL.w1, DL.w2, DL.w3, DL.wVar, DL.wC, DL.wNil, DL.wCons, DL.wTup, DL.wLst, DL.wCall, DL.wCallK, DL.wO0, DL.wO1, DL.wSl, DL.wStep, DL.wLc, DL.wISeq, DL.wIR1, DL.wIR2, DL.wIZip, DL.wIStr, DL.wIEn, DL.wDc, DL.DcK.emp, DL.Wk.wp, DL.binF, DL.cmpF, DL.isaD, DL.negD, DL.Blt.spec, DL.Bm.spec, DL.Bm.ty, List.getElem?_cons_zero, List.getElem?_cons_succ, Option.some.injEq, exists_eq_left', exists_eq_left, exists_and_left, List.set_cons_zero, List.set_cons_succ, DL.asn_name, DL.asn_tup, DL.asns_nil, DL.asns_name, DL.wipeD, DL.tru_bl, DL.tru_int, DL.tru_non, DL.tru_tup, DL.bodyEnds, List.map_cons, List.map_nil, ↓reduceIte, Bool.false_eq_true, and_true, true_and, DL.D.str.injEq, DL.D.int.injEq, DL.D.ref.injEq, DL.D.tup.injEq, DL.D.bl.injEq, $ts,*] at $h:ident)
namespace DL
open PySem L2
theorem kind_ref {a : Addr} {M : Mp} {k : String} (h : kind (.ref a) M = some k) : k = "list" ∨ k = "dict" := by
  have h : kindO (M a) = some k := h
  unfold kindO at h
  split at h <;> first | (cases h; simp; done) | cases h
theorem isaB_ref {c : Cs} {a : Addr} {M : Mp} {T : String} (h : kn (.ref a) M) (h1 : T ≠ "list") (h2 : T ≠ "dict") : isaB c T (.ref a) M = some false := by
  obtain ⟨k, h⟩ := h
  unfold isaB
  rw [h]
  rcases kind_ref h with rfl | rfl <;> simp [Ne.symm h1, Ne.symm h2]
theorem kn_ty {n : String} {M : Mp} (h : kn (.ty n) M) : False := by obtain ⟨k, h⟩ := h; cases h
/-! ### is_whole -/
def isWh (d : D) (lo hi : Int) : Bool := match d with
  | .int i => decide (lo ≤ i) && decide (i ≤ hi)
  | _ => false
def S_is_whole (_ : Cs) : Spec := fun ds M Q => ∃ d lo hi, ds = [d, .int lo, .int hi] ∧ kn d M ∧ Q (.bl (isWh d lo hi)) M
abbrev N_is_whole : List Str := ["thing", "low", "high"]
def ir_is_whole (c : Cs) : Ss := (.cons (.ret (.bop .And (.cons (.isa (.var 0) (.bty "int") (isaB c "int")) (.cons (.not_ (.isa (.var 0) (.bty "bool") (isaB c "bool"))) (.cons (.chain .LtE .LtE (.var 1) (.var 0) (.var 2)) .nil))))) .nil)
theorem wp_is_whole (c : Cs) {d : D} {lo hi : Int} {M : Mp} {Q : DQ} (hk : kn d M) (h : Q (.bl (isWh d lo hi)) M) : (ir_is_whole c).wp (bodyEnds Q) [some d, some (.int lo), some (.int hi)] M := by
  simp only [wW, ir_is_whole]
  cases d with
  | ty n => exact (kn_ty hk).elim
  | ref a =>
    refine ⟨false, isaB_ref hk (by decide) (by decide), ?_⟩
    simpa [isWh] using h
  | int i =>
    refine ⟨true, rfl, ?_⟩
    rw [if_pos rfl]
    refine ⟨false, rfl, ?_⟩
    refine (if_pos rfl).mpr (ord_int ⟨_, rfl, ?_⟩)
    by_cases h1 : lo ≤ i
    · simp only [h1, decide_true, if_true]
      refine ord_int ?_
      simpa [isWh, h1] using h
    · simp only [h1, decide_false]
      simpa [isWh, h1] using h
  | bl b =>
    refine ⟨true, rfl, ?_⟩
    rw [if_pos rfl]
    exact ⟨true, rfl, by simpa [isWh] using h⟩
  | _ => exact ⟨false, rfl, by simpa [isWh] using h⟩
/-! ### are_whole -/
def areWh (d : D) (lo hi : Int) : Bool := match d with
  | .tup xs => xs.all fun x => isWh x lo hi
  | _ => false
/-- the things in a tuple are of known kinds -/
def kns (d : D) (M : Mp) : Prop := kn d M ∧ ∀ xs, d = .tup xs → ∀ x ∈ xs, kn x M
def S_are_whole (_ : Cs) : Spec := fun ds M Q => ∃ d lo hi, ds = [d, .int lo, .int hi] ∧ kns d M ∧ ∀ M', Keep M M' → Q (.bl (areWh d lo hi)) M'
abbrev N_are_whole : List Str := ["thing", "low", "high", "one"]
def ir_are_whole (c : Cs) : Ss := (.cons (.ret (.bop .And (.cons (.isa (.var 0) (.bty "tuple") (isaB c "tuple")) (.cons (.bcall .all (.cons (.lc [("one", 3)] (.name 3) (.seq (.var 0)) .none (.call "is_whole" (S_is_whole c) (.cons (.var 3) (.cons (.var 1) (.cons (.var 2) .nil))))) .nil)) .nil)))) .nil)
theorem seqT_t {ds : List D} {M : Mp} : seqT M (.tup ds) ⟨ds, fun _ => True⟩ := .inl ⟨ds, rfl, rfl⟩
theorem seqT_l {p : Addr} {ds : List D} {M : Mp} (h : M p = some (.lst ds)) : seqT M (.ref p) ⟨ds, fun M => M p = some (.lst ds)⟩ := .inr ⟨p, ds, rfl, h, rfl⟩
theorem wp_are_whole (c : Cs) {d : D} {lo hi : Int} {M : Mp} {Q : DQ} (hz : sz d) (hk : kns d M) (h : ∀ M', Keep M M' → Q (.bl (areWh d lo hi)) M') : (ir_are_whole c).wp (bodyEnds Q) [some d, some (.int lo), some (.int hi), none] M := by
  simp only [wW, ir_are_whole]
  cases d with
  | ty n => exact (kn_ty hk.1).elim
  | ref a => exact ⟨false, isaB_ref hk.1 (by decide) (by decide), by simpa [areWh] using h M (.refl M)⟩
  | tup xs =>
    refine ⟨true, rfl, (if_pos rfl).mpr ⟨_, seqT_t, (sz_tup hz).1, ?_⟩⟩
    refine all_go (fun x => isWh x lo hi) (fun _ _ => trivial) (fun x hx M2 k h2 hkk => ⟨_, rfl, ?_⟩) h
    simp only [wW]
    exact ⟨x, lo, hi, rfl, (hk.2 xs rfl x hx).keep h2, hkk M2 h2⟩
  | _ => exact ⟨false, rfl, by simpa [areWh] using h M (.refl M)⟩
/-! ### is_name -/
def isLetter (c : Nat) : Bool := decide (97 ≤ c) && decide (c ≤ 122)
def nameS (x : Str) : Bool := decide (1 ≤ x.length) && decide (x.length ≤ 6) && x.cps.toList.all isLetter
def isNm (d : D) : Bool := match d with
  | .str x => nameS x
  | _ => false
def S_is_name (_ : Cs) : Spec := fun ds M Q => ∃ d, ds = [d] ∧ kn d M ∧ (∀ x, d = .str x → x.length ≤ sizeLine) ∧ ∀ M', Keep M M' → Q (.bl (isNm d)) M'
abbrev N_is_name : List Str := ["thing", "sign"]
def ir_is_name (c : Cs) : Ss := (.cons (.ret (.bop .And (.cons (.isa (.var 0) (.bty "str") (isaB c "str")) (.cons (.chain .LtE .LtE (.int 1) (.bcall .len (.cons (.var 0) .nil)) (.glob "MOST_LETTERS" (.int 6))) (.cons (.bcall .all (.cons (.lc [("sign", 1)] (.name 1) (.str (.var 0)) .none (.cmp .In (.var 1) (.glob "LETTERS" (.str "abcdefghijklmnopqrstuvwxyz")))) .nil)) .nil))))) .nil)
theorem letters_mem (c : Nat) : decide (c ∈ (Str.ofString "abcdefghijklmnopqrstuvwxyz").cps.toList) = isLetter c := by
  have e : (Str.ofString "abcdefghijklmnopqrstuvwxyz").cps.toList = (List.range 26).map (97 + ·) := by decide +kernel
  rw [e]
  unfold isLetter
  by_cases h : 97 ≤ c ∧ c ≤ 122
  · rw [decide_eq_true h.1, decide_eq_true h.2, decide_eq_true]
    · rfl
    · exact List.mem_map.mpr ⟨c - 97, List.mem_range.mpr (by omega), by omega⟩
  · rw [decide_eq_false]
    · by_cases h1 : 97 ≤ c
      · rw [decide_eq_true h1, decide_eq_false (fun h2 => h ⟨h1, h2⟩)]; rfl
      · rw [decide_eq_false h1]; rfl
    · intro hm
      obtain ⟨i, hi, e⟩ := List.mem_map.mp hm
      rw [List.mem_range] at hi
      exact h (by omega)
theorem wp_is_name (c : Cs) {d : D} {M : Mp} {Q : DQ} (hk : kn d M) (hl : ∀ x, d = .str x → x.length ≤ sizeLine) (h : ∀ M', Keep M M' → Q (.bl (isNm d)) M') : (ir_is_name c).wp (bodyEnds Q) [some d, none] M := by
  simp only [wW, ir_is_name]
  cases d with
  | ty n => exact (kn_ty hk).elim
  | ref a => exact ⟨false, isaB_ref hk (by decide) (by decide), by simpa [isNm] using h M (.refl M)⟩
  | str x =>
    have hx := hl x rfl
    refine ⟨true, rfl, (if_pos rfl).mpr ?_⟩
    refine ⟨_, _, rfl, ⟨hx, rfl⟩, ord_int ⟨_, rfl, ?_⟩⟩
    by_cases h1 : 1 ≤ x.length
    · have h1' : (1 : Int) ≤ (x.length : Int) := by omega
      simp only [h1', decide_true, if_true]
      refine ord_int ⟨_, rfl, ?_⟩
      by_cases h2 : x.length ≤ 6
      · have h2' : (x.length : Int) ≤ 6 := by omega
        simp only [h2', decide_true, if_true]
        have hz : (strI x).length ≤ sizeLine := by
          have e : (strI x).length = x.length := by unfold strI; rw [List.length_map, Array.length_toList]; rfl
          rw [e]; exact hx
        refine ⟨x, rfl, hz, ?_⟩
        have e : isNm (.str x) = (strI x).all fun d => match d with | .str y => y.cps.toList.all isLetter | _ => false := by
          show nameS x = _
          unfold nameS strI
          rw [decide_eq_true h1, decide_eq_true h2, List.all_map]
          show x.cps.toList.all isLetter = _
          congr 1
          funext cc
          simp
        refine all_go (T := ⟨strI x, fun _ => True⟩) (fun d => match d with | .str y => y.cps.toList.all isLetter | _ => false) (fun _ _ => trivial) (fun y hy M2 k h2 hkk => ⟨_, rfl, ?_⟩) (fun M2 h2 => by rw [← e]; exact h M2 h2)
        obtain ⟨cc, _, rfl⟩ := List.mem_map.mp hy
        simp only [wW]
        refine .inr ⟨cc, _, rfl, rfl, ?_⟩
        have q := hkk M2 h2
        show k (.bl (decide (cc ∈ _))) M2
        rw [letters_mem]
        simpa using q
      · have h2' : ¬ (x.length : Int) ≤ 6 := by omega
        simp only [h2', decide_false]
        simpa [isNm, nameS, h1, h2] using h M (.refl M)
    · have h1' : ¬ (1 : Int) ≤ (x.length : Int) := by omega
      simp only [h1', decide_false]
      simpa [isNm, nameS, h1] using h M (.refl M)
  | _ => exact ⟨false, rfl, by simpa [isNm] using h M (.refl M)⟩
/-! ### are_rising -/
/-- two things of one kind, the first the lesser -/
def ltP (x y : D) : Bool := PySem.W.dataLt (py x) (py y)
def risB : List D → Bool
  | x :: y :: r => ltP x y && risB (y :: r)
  | _ => true
/-- things that can be compared -/
def cmpP (x y : D) : Prop := plain x = true ∧ plain y = true ∧ PySem.W.alike (py x) (py y) = true ∧ py x ≠ .none ∧ (py x).depth ≤ 64
def cmpL : List D → Prop
  | x :: y :: r => cmpP x y ∧ cmpL (y :: r)
  | _ => True
theorem lt_plain {x y : D} {M : Mp} {Q : DQ} (h : cmpP x y) (q : Q (.bl (ltP x y)) M) : ordD .lt x y M Q := .inr ⟨py x, py y, .plain h.1, .plain h.2.1, h.2.2.1, h.2.2.2.1, h.2.2.2.2, q⟩
def S_are_rising (_ : Cs) : Spec := fun ds M Q => ∃ d xs, ds = [d] ∧ seqD M d xs ∧ cmpL xs ∧ ∀ M', Keep M M' → Q (.bl (risB xs)) M'
abbrev N_are_rising : List Str := ["some", "one", "other"]
def ir_are_rising (c : Cs) : Ss := (.cons (.ret (.bcall .all (.cons (.lc [("one", 1), ("other", 2)] (.tup (.cons (.name 1) (.cons (.name 2) .nil))) (.zip (.var 0) (.slc (.var 0) (.some (.int 1)) .none)) .none (.cmp .Lt (.var 1) (.var 2))) .nil))) .nil)
theorem cut_one {α : Type} (xs : List α) : cutL xs (some 1) none = xs.drop 1 := by
  unfold cutL
  rw [show HT.sIx xs.length 0 (some 1) = min 1 xs.length from HT.sIx_nat xs.length 0 1, HT.sIx_none]
  cases xs with
  | nil => rfl
  | cons x r =>
    rw [show min 1 (x :: r).length = 1 by rw [List.length_cons]; omega]
    show (List.take ((x :: r).length - 1) r) = r
    rw [List.length_cons, Nat.add_sub_cancel]
    exact List.take_length
theorem slD_t {ds ds' : List D} {lo hi : Option Int} {M : Mp} {Q : DQ} (e : cutL ds lo hi = ds') (h : Q (.tup ds') M) : slD (.tup ds) lo hi M Q := by subst e; exact h
theorem slD_l {p : Addr} {ds ds' : List D} {lo hi : Option Int} {M : Mp} {Q : DQ} (e : cutL ds lo hi = ds') (hp : M p = some (.lst ds)) (h : ∀ l, M l = none → Q (.ref l) (up M l (.lst ds'))) : slD (.ref p) lo hi M Q := by subst e; exact ⟨ds, hp, h⟩
theorem zip_tail : ∀ (xs : List D), cmpL xs → (∀ z ∈ zipI xs (xs.drop 1), ∃ x y, z = .tup [x, y] ∧ cmpP x y) ∧ (zipI xs (xs.drop 1)).all (fun z => match z with | .tup [x, y] => ltP x y | _ => false) = risB xs
  | [], _ => ⟨fun z hz => (by cases hz), rfl⟩
  | [x], _ => ⟨fun z hz => (by cases hz), rfl⟩
  | x :: y :: r, h => by
    unfold cmpL at h
    obtain ⟨h1, h2⟩ := zip_tail (y :: r) h.2
    have e : zipI (x :: y :: r) ((x :: y :: r).drop 1) = .tup [x, y] :: zipI (y :: r) ((y :: r).drop 1) := rfl
    rw [e]
    refine ⟨fun z hz => ?_, ?_⟩
    · rcases List.mem_cons.mp hz with rfl | hz
      · exact ⟨x, y, rfl, h.1⟩
      · exact h1 z hz
    · rw [List.all_cons, h2]
      rfl
theorem wp_are_rising (c : Cs) {d : D} {xs : List D} {M : Mp} {Q : DQ} (hs : seqD M d xs) (hz : xs.length ≤ sizeLine) (hc : cmpL xs) (h : ∀ M', Keep M M' → Q (.bl (risB xs)) M') : (ir_are_rising c).wp (bodyEnds Q) [some d, none, none] M := by
  simp only [wW, ir_are_rising]
  obtain ⟨h1, h2⟩ := zip_tail xs hc
  have hz' : (zipI xs (xs.drop 1)).length ≤ sizeLine := by rw [zipI_len, List.length_drop]; omega
  have go : ∀ (T : DIt) (M1 : Mp), T.items = zipI xs (xs.drop 1) → Keep M M1 → (∀ M2, Keep M1 M2 → T.keep M2) → T.items.length ≤ sizeLine ∧ lcGo T (.tup (.cons (.name 1) (.cons (.name 2) .nil))) wYes (w2 (ordD Ord.lt) (wVar 1) (wVar 2)) [some d, none, none] (fun acc M2 => ∀ (p : Addr), M2 p = none → allS [D.ref p] (up M2 p (MO.lst acc)) Q) T.items [] M1 := by
    intro T M1 e k1 kT
    refine ⟨by rw [e]; exact hz', all_go (fun z => match z with | .tup [x, y] => ltP x y | _ => false) kT (fun z hz M2 k k2 hk => ?_) fun M2 k2 => ?_⟩
    · rw [e] at hz
      obtain ⟨x, y, rfl, hxy⟩ := h1 z hz
      refine ⟨_, rfl, ?_⟩
      simp only [wW]
      exact lt_plain hxy (hk M2 k2)
    · rw [e, h2]
      exact h M2 (k1.trans k2)
  rcases hs with rfl | ⟨a, rfl, ha⟩
  · exact slD_t (cut_one xs) ⟨_, .inl ⟨xs, _, rfl, rfl, rfl⟩, go _ M rfl (.refl M) fun _ _ => trivial⟩
  · refine slD_l (cut_one xs) ha fun l hl => ?_
    have e1 : up M l (.lst (xs.drop 1)) a = some (.lst xs) := Keep.new hl a _ ha
    have e2 : up M l (.lst (xs.drop 1)) l = some (.lst (xs.drop 1)) := up_same
    exact ⟨_, .inr ⟨a, l, xs, _, rfl, rfl, e1, e2, rfl⟩, go _ _ rfl (.new hl) fun M2 k2 => ⟨k2 _ _ e1, k2 _ _ e2⟩⟩
/-! ### are_pairs -/
def isPr (d : D) (lo hi : Int) : Bool := match d with
  | .tup [x, y] => isWh x lo hi && isWh y lo hi
  | _ => false
def arePr (d : D) (lo hi : Int) : Bool := match d with
  | .tup xs => (xs.all fun x => isPr x lo hi) && risB xs
  | _ => false
/-- things of known kinds, to the second depth -/
def kns2 (d : D) (M : Mp) : Prop := kn d M ∧ ∀ xs, d = .tup xs → ∀ x ∈ xs, kns x M
def S_are_pairs (_ : Cs) : Spec := fun ds M Q => ∃ d lo hi, ds = [d, .int lo, .int hi] ∧ kns2 d M ∧ ∀ M', Keep M M' → Q (.bl (arePr d lo hi)) M'
abbrev N_are_pairs : List Str := ["thing", "low", "high", "pair"]
def ir_are_pairs (c : Cs) : Ss := (.cons (.ife (.bop .Or (.cons (.not_ (.isa (.var 0) (.bty "tuple") (isaB c "tuple"))) (.cons (.not_ (.bcall .all (.cons (.lc [("pair", 3)] (.name 3) (.seq (.var 0)) .none (.bop .And (.cons (.call "are_whole" (S_are_whole c) (.cons (.var 3) (.cons (.var 1) (.cons (.var 2) .nil)))) (.cons (.cmp .Eq (.bcall .len (.cons (.var 3) .nil)) (.int 2)) .nil)))) .nil))) .nil))) (.cons (.ret (.bl false)) .nil) .nil) (.cons (.ret (.call "are_rising" (S_are_rising c) (.cons (.var 0) .nil))) .nil))
theorem isWh_int {d : D} {lo hi : Int} (h : isWh d lo hi = true) : ∃ i, d = .int i := by
  cases d <;> first | exact ⟨_, rfl⟩ | cases h
theorem isPr_eq (d : D) (lo hi : Int) : isPr d lo hi = (areWh d lo hi && (match d with | .tup xs => decide (xs.length = 2) | _ => false)) := by
  cases d with
  | tup xs =>
    match xs with
    | [] => rfl
    | [x] => simp [isPr, areWh]
    | [x, y] => simp [isPr, areWh]
    | x :: y :: z :: r => simp [isPr, areWh]
  | _ => rfl
theorem isPr_ints {d : D} {lo hi : Int} (h : isPr d lo hi = true) : ∃ i j, d = .tup [.int i, .int j] := by
  unfold isPr at h
  split at h
  · rename_i x y
    rw [Bool.and_eq_true] at h
    obtain ⟨i, rfl⟩ := isWh_int h.1
    obtain ⟨j, rfl⟩ := isWh_int h.2
    exact ⟨i, j, rfl⟩
  · cases h
theorem cmpP_ii (i j i' j' : Int) : cmpP (.tup [.int i, .int j]) (.tup [.int i', .int j']) := by
  refine ⟨rfl, rfl, ?_, ?_, ?_⟩
  · simp [py, pys, PySem.W.alike, PySem.W.alikeAll]
  · simp [py, pys]
  · simp [py, pys, PyData.depth, PyData.depthAll]
theorem cmpL_of : ∀ {xs : List D}, (∀ x ∈ xs, ∀ y ∈ xs, cmpP x y) → cmpL xs
  | [], _ => trivial
  | [_], _ => trivial
  | x :: y :: r, h => ⟨h x (by simp) y (by simp), cmpL_of fun a ha b hb => h a (List.mem_cons_of_mem _ ha) b (List.mem_cons_of_mem _ hb)⟩
theorem wp_are_pairs (c : Cs) {d : D} {lo hi : Int} {M : Mp} {Q : DQ} (hz : sz d) (hk : kns2 d M) (h : ∀ M', Keep M M' → Q (.bl (arePr d lo hi)) M') : (ir_are_pairs c).wp (bodyEnds Q) [some d, some (.int lo), some (.int hi), none] M := by
  simp only [wW, ir_are_pairs]
  cases d with
  | ty n => exact (kn_ty hk.1).elim
  | ref a => exact ⟨false, isaB_ref hk.1 (by decide) (by decide), by simpa [arePr] using h M (.refl M)⟩
  | tup xs =>
    refine ⟨true, rfl, ?_⟩
    simp only [Bool.not_true, Bool.false_eq_true, if_false]
    refine ⟨_, seqT_t, (sz_tup hz).1, ?_⟩
    refine all_go (T := ⟨xs, fun _ => True⟩) (fun x => isPr x lo hi) (fun _ _ => trivial) (fun x hx M2 k h2 hkk => ⟨_, rfl, ?_⟩) fun M2 h2 => ?_
    · simp only [wW]
      refine ⟨x, lo, hi, rfl, ⟨(hk.2 xs rfl x hx).1.keep h2, fun ys e y hy => ((hk.2 xs rfl x hx).2 ys e y hy).keep h2⟩, fun M3 h3 => ?_⟩
      have q := hkk M3 (h2.trans h3)
      rw [isPr_eq] at q
      simp only [wW]
      by_cases ha : areWh x lo hi = true
      · rw [if_pos ha]
        cases x <;> first | (cases ha; done) | skip
        rename_i ys
        refine ⟨_, ys.length, rfl, rfl, eq_int ?_⟩
        rw [ha, Bool.true_and] at q
        have e : decide ((ys.length : Int) = 2) = decide (ys.length = 2) := by
          by_cases h2 : ys.length = 2
          · simp [h2]
          · have : ¬ (ys.length : Int) = 2 := by omega
            simp [h2, this]
        simp only [Bool.false_eq_true, if_false, e]
        exact q
      · rw [if_neg ha]
        rw [Bool.not_eq_true] at ha
        rw [ha, Bool.false_and] at q
        rw [ha]
        exact q
    · simp only [wW]
      by_cases ha : (xs.all fun x => isPr x lo hi) = true
      · rw [ha]
        simp only [Bool.not_true, Bool.false_eq_true, if_false]
        refine ⟨_, xs, rfl, .inl rfl, cmpL_of fun x hx y hy => ?_, fun M3 h3 => ?_⟩
        · obtain ⟨i, j, rfl⟩ := isPr_ints (List.all_eq_true.mp ha x hx)
          obtain ⟨i', j', rfl⟩ := isPr_ints (List.all_eq_true.mp ha y hy)
          exact cmpP_ii i j i' j'
        · have q := h M3 (h2.trans h3)
          simp only [arePr, ha, Bool.true_and] at q
          exact q
      · rw [Bool.not_eq_true] at ha
        rw [ha]
        simp only [Bool.not_false, if_true]
        have q := h M2 h2
        simp only [arePr, ha, Bool.false_and] at q
        exact q
  | _ => exact ⟨false, rfl, by simpa [arePr] using h M (.refl M)⟩
end DL

set_option Elab.async false
set_option linter.all false
set_option maxRecDepth 100000
set_option maxHeartbeats 4000000
/-! W2: houses, of good values. -/
namespace DL
open PySem L2
theorem atI_nat {α : Type} {xs : List α} {n : Nat} {x : α} (h : xs[n]? = some x) : L2.atI xs (n : Int) = some x := by
  have hl : n < xs.length := by
    rcases Nat.lt_or_ge n xs.length with h1 | h1
    · exact h1
    · rw [List.getElem?_eq_none h1] at h; cases h
  unfold L2.atI L2.ixN
  rw [if_pos (by omega), if_pos (by omega)]
  show xs[(n : Int).toNat]? = some x
  rw [Int.toNat_natCast]
  exact h
theorem ix_t (n : Nat) {ds : List D} {d : D} {M : Mp} {Q : DQ} (h : ds[n]? = some d) (q : Q d M) : ixD (.tup ds) (.int (n : Int)) M Q := .inl ⟨ds, n, d, .inl rfl, rfl, atI_nat h, q⟩
theorem ix_l (n : Nat) {p : Addr} {ds : List D} {d : D} {M : Mp} {Q : DQ} (hp : M p = some (.lst ds)) (h : ds[n]? = some d) (q : Q d M) : ixD (.ref p) (.int (n : Int)) M Q := .inl ⟨ds, n, d, .inr ⟨p, rfl, hp⟩, rfl, atI_nat h, q⟩
theorem len_t {ds : List D} {M : Mp} {Q : DQ} (q : Q (.int ds.length) M) : lenS [.tup ds] M Q := ⟨_, ds.length, rfl, rfl, q⟩
theorem len_l {p : Addr} {ds : List D} {M : Mp} {Q : DQ} (hp : M p = some (.lst ds)) (q : Q (.int ds.length) M) : lenS [.ref p] M Q := ⟨_, ds.length, rfl, .inl ⟨ds, hp, rfl⟩, q⟩
/-- a name and something -/
def called (x : D) : Prop := ∃ nm d, x = .tup [.str nm, d] ∧ nameS nm = true
def nameD : D → D
  | .tup (n :: _) => n
  | _ => .non
theorem nameS_len {x : Str} (h : nameS x = true) : x.length ≤ sizeLine := by
  unfold nameS at h
  rw [Bool.and_eq_true, Bool.and_eq_true] at h
  have := of_decide_eq_true h.1.2
  rw [sizeLine_eq]; omega
/-! ### are_called -/
def S_are_called (_ : Cs) : Spec := fun ds M Q => ∃ xs most, ds = [.tup xs, .int most] ∧ (xs.length : Int) ≤ most ∧ (∀ x ∈ xs, called x) ∧ risB (xs.map nameD) = true ∧ ∀ M', Keep M M' → Q (.bl true) M'
abbrev N_are_called : List Str := ["thing", "most", "one"]
def ir_are_called (c : Cs) : Ss := (.cons (.ife (.bop .Or (.cons (.not_ (.isa (.var 0) (.bty "tuple") (isaB c "tuple"))) (.cons (.cmp .Gt (.bcall .len (.cons (.var 0) .nil)) (.var 1)) .nil))) (.cons (.ret (.bl false)) .nil) .nil) (.cons (.ife (.not_ (.bcall .all (.cons (.lc [("one", 2)] (.name 2) (.seq (.var 0)) .none (.bop .And (.cons (.isa (.var 2) (.bty "tuple") (isaB c "tuple")) (.cons (.cmp .Eq (.bcall .len (.cons (.var 2) .nil)) (.int 2)) (.cons (.call "is_name" (S_is_name c) (.cons (.idx (.var 2) (.int 0)) .nil)) .nil))))) .nil))) (.cons (.ret (.bl false)) .nil) .nil) (.cons (.ret (.call "are_rising" (S_are_rising c) (.cons (.lc [("one", 2)] (.name 2) (.seq (.var 0)) .none (.idx (.var 2) (.int 0))) .nil))) .nil)))
theorem cmpP_ss (x y : Str) : cmpP (.str x) (.str y) := ⟨rfl, rfl, by simp [py, PySem.W.alike], by simp [py], by simp [py, PyData.depth]⟩
theorem wp_are_called (c : Cs) {xs : List D} {most : Int} {M : Mp} {Q : DQ} (hz : xs.length ≤ sizeLine) (hl : (xs.length : Int) ≤ most) (hc : ∀ x ∈ xs, called x) (hr : risB (xs.map nameD) = true) (h : ∀ M', Keep M M' → Q (.bl true) M') : (ir_are_called c).wp (bodyEnds Q) [some (.tup xs), some (.int most), none] M := by
  simp only [wW, ir_are_called]
  refine ⟨true, rfl, ?_⟩
  simp only [Bool.not_true, Bool.false_eq_true, if_false]
  refine len_t (ord_int ⟨_, rfl, ?_⟩)
  have e : decide (most < (xs.length : Int)) = false := decide_eq_false (by omega)
  simp only [e, Bool.false_eq_true, if_false]
  refine ⟨_, seqT_t, hz, ?_⟩
  refine all_go (T := ⟨xs, fun _ => True⟩) (fun _ => true) (fun _ _ => trivial) (fun x hx M2 k h2 hkk => ⟨_, rfl, ?_⟩) fun M2 h2 => ?_
  · obtain ⟨nm, d, rfl, hn⟩ := hc x hx
    simp only [wW]
    refine ⟨true, rfl, ?_⟩
    simp only [if_true]
    refine len_t (eq_int ?_)
    simp only [wW, List.length_cons, List.length_nil]
    refine (if_pos (by simp)).mpr (ix_t 0 rfl ?_)
    refine ⟨_, rfl, kn_str, fun y e => by cases e; exact nameS_len hn, fun M3 h3 => ?_⟩
    have q := hkk M3 (h2.trans h3)
    simpa [isNm, hn] using q
  · simp only [wW, List.all_eq_true, implies_true]
    rw [show (xs.all fun _ => true) = true by simp]
    simp only [Bool.not_true, Bool.false_eq_true, if_false]
    refine ⟨_, seqT_t, hz, ?_⟩
    refine lcGo_map (T := ⟨xs, fun _ => True⟩) (M0 := M2) (fun x => some (nameD x)) (fun _ _ => trivial) xs M2 (.refl _) (fun x hx acc M3 k h3 hk => ⟨_, rfl, ?_⟩) fun M3 h3 p hp => ?_
    · obtain ⟨nm, d, rfl, hn⟩ := hc x hx
      refine yes_if ?_
      simp only [wW]
      exact ix_t 0 rfl (hk M3 h3)
    · rw [show xs.filterMap (fun x => some (nameD x)) = xs.map nameD by rw [List.filterMap_eq_map']]
      refine ⟨_, xs.map nameD, rfl, .inr ⟨p, rfl, up_same⟩, cmpL_of fun a ha b hb => ?_, fun M4 h4 => ?_⟩
      · obtain ⟨x, hx, rfl⟩ := List.mem_map.mp ha
        obtain ⟨y, hy, rfl⟩ := List.mem_map.mp hb
        obtain ⟨n1, d1, rfl, _⟩ := hc x hx
        obtain ⟨n2, d2, rfl, _⟩ := hc y hy
        exact cmpP_ss n1 n2
      · rw [hr]
        exact h M4 (h2.trans (h3.trans ((Keep.new hp).trans h4)))
/-! ### good values -/
structure RulesOk (many : Int) (xs : List D) : Prop where
  len : xs.length ≤ 3
  each : ∀ x ∈ xs, ∃ nm prs, x = .tup [.str nm, .tup prs] ∧ nameS nm = true ∧ (∀ p ∈ prs, isPr p 0 (many - 1) = true) ∧ risB prs = true
  rise : risB (xs.map nameD) = true
structure ListsOk (many : Int) (xs : List D) : Prop where
  len : xs.length ≤ 6
  each : ∀ x ∈ xs, ∃ nm ms, x = .tup [.str nm, .tup ms] ∧ nameS nm = true ∧ (∀ m ∈ ms, isWh m 0 (many - 1) = true) ∧ risB ms = true
  rise : risB (xs.map nameD) = true
theorem RulesOk.called {many : Int} {xs : List D} (h : RulesOk many xs) : ∀ x ∈ xs, DL.called x := fun x hx => by
  obtain ⟨nm, prs, e, hn, _⟩ := h.each x hx
  exact ⟨nm, _, e, hn⟩
theorem ListsOk.called {many : Int} {xs : List D} (h : ListsOk many xs) : ∀ x ∈ xs, DL.called x := fun x hx => by
  obtain ⟨nm, prs, e, hn, _⟩ := h.each x hx
  exact ⟨nm, _, e, hn⟩
theorem kns2_prs {prs : List D} {lo hi : Int} {M : Mp} (h : ∀ p ∈ prs, isPr p lo hi = true) : kns2 (.tup prs) M := by
  refine ⟨kn_tup, fun xs e x hx => ?_⟩
  cases e
  obtain ⟨i, j, rfl⟩ := isPr_ints (h x hx)
  refine ⟨kn_tup, fun ys e y hy => ?_⟩
  cases e
  rcases List.mem_cons.mp hy with rfl | hy
  · exact kn_int
  · obtain rfl := List.mem_singleton.mp hy
    exact kn_int
theorem kns_ms {ms : List D} {lo hi : Int} {M : Mp} (h : ∀ p ∈ ms, isWh p lo hi = true) : kns (.tup ms) M := by
  refine ⟨kn_tup, fun xs e x hx => ?_⟩
  cases e
  obtain ⟨i, rfl⟩ := isWh_int (h x hx)
  exact kn_int
theorem cmpL_ms {ms : List D} {lo hi : Int} (h : ∀ p ∈ ms, isWh p lo hi = true) : cmpL ms := cmpL_of fun x hx y hy => by
  obtain ⟨i, rfl⟩ := isWh_int (h x hx)
  obtain ⟨j, rfl⟩ := isWh_int (h y hy)
  exact ⟨rfl, rfl, by simp [py, PySem.W.alike], by simp [py], by simp [py, PyData.depth]⟩
/-! ### are_rules -/
def S_are_rules (_ : Cs) : Spec := fun ds M Q => ∃ xs many, ds = [.tup xs, .int many] ∧ RulesOk many xs ∧ ∀ M', Keep M M' → Q (.bl true) M'
abbrev N_are_rules : List Str := ["thing", "many", "name", "pairs"]
def ir_are_rules (c : Cs) : Ss := (.cons (.ret (.bop .And (.cons (.call "are_called" (S_are_called c) (.cons (.var 0) (.cons (.glob "MOST_RULES" (.int 3)) .nil))) (.cons (.bcall .all (.cons (.lc [("name", 2), ("pairs", 3)] (.tup (.cons (.name 2) (.cons (.name 3) .nil))) (.seq (.var 0)) .none (.call "are_pairs" (S_are_pairs c) (.cons (.var 3) (.cons (.int 0) (.cons (.bin .Sub (.var 1) (.int 1)) .nil))))) .nil)) .nil)))) .nil)
theorem wp_are_rules (c : Cs) {xs : List D} {many : Int} {M : Mp} {Q : DQ} (ok : RulesOk many xs) (h : ∀ M', Keep M M' → Q (.bl true) M') : (ir_are_rules c).wp (bodyEnds Q) [some (.tup xs), some (.int many), none, none] M := by
  have hz : xs.length ≤ sizeLine := by have := ok.len; rw [sizeLine_eq]; omega
  simp only [wW, ir_are_rules]
  refine ⟨xs, 3, rfl, by have := ok.len; omega, ok.called, ok.rise, fun M1 h1 => ?_⟩
  simp only [wW]
  refine ⟨_, seqT_t, hz, ?_⟩
  refine all_go (T := ⟨xs, fun _ => True⟩) (fun _ => true) (fun _ _ => trivial) (fun x hx M2 k h2 hkk => ?_) fun M2 h2 => ?_
  · obtain ⟨nm, prs, rfl, hn, hp, hr⟩ := ok.each x hx
    refine ⟨_, rfl, ?_⟩
    simp only [wW]
    refine ⟨many, 1, rfl, rfl, trivial, _, 0, many - 1, rfl, kns2_prs hp, fun M3 h3 => ?_⟩
    have e : arePr (.tup prs) 0 (many - 1) = true := by
      show ((prs.all fun x => isPr x 0 (many - 1)) && risB prs) = true
      rw [hr, Bool.and_true]
      exact List.all_eq_true.mpr hp
    rw [e]
    exact hkk M3 (h2.trans h3)
  · rw [show (xs.all fun _ => true) = true by simp]
    exact h M2 (h1.trans h2)
/-! ### are_lists -/
def S_are_lists (_ : Cs) : Spec := fun ds M Q => ∃ xs many, ds = [.tup xs, .int many] ∧ ListsOk many xs ∧ ∀ M', Keep M M' → Q (.bl true) M'
abbrev N_are_lists : List Str := ["thing", "many", "name", "marks"]
def ir_are_lists (c : Cs) : Ss := (.cons (.ife (.not_ (.call "are_called" (S_are_called c) (.cons (.var 0) (.cons (.glob "MOST_LISTS" (.int 6)) .nil)))) (.cons (.ret (.bl false)) .nil) .nil) (.cons (.ret (.bcall .all (.cons (.lc [("name", 2), ("marks", 3)] (.tup (.cons (.name 2) (.cons (.name 3) .nil))) (.seq (.var 0)) .none (.bop .And (.cons (.call "are_whole" (S_are_whole c) (.cons (.var 3) (.cons (.int 0) (.cons (.bin .Sub (.var 1) (.int 1)) .nil)))) (.cons (.call "are_rising" (S_are_rising c) (.cons (.var 3) .nil)) .nil)))) .nil))) .nil))
theorem wp_are_lists (c : Cs) {xs : List D} {many : Int} {M : Mp} {Q : DQ} (ok : ListsOk many xs) (h : ∀ M', Keep M M' → Q (.bl true) M') : (ir_are_lists c).wp (bodyEnds Q) [some (.tup xs), some (.int many), none, none] M := by
  have hz : xs.length ≤ sizeLine := by have := ok.len; rw [sizeLine_eq]; omega
  simp only [wW, ir_are_lists]
  refine ⟨xs, 6, rfl, by have := ok.len; omega, ok.called, ok.rise, fun M1 h1 => ?_⟩
  simp only [wW, Bool.not_true]
  refine ⟨_, seqT_t, hz, ?_⟩
  refine all_go (T := ⟨xs, fun _ => True⟩) (fun _ => true) (fun _ _ => trivial) (fun x hx M2 k h2 hkk => ?_) fun M2 h2 => ?_
  · obtain ⟨nm, ms, rfl, hn, hp, hr⟩ := ok.each x hx
    refine ⟨_, rfl, ?_⟩
    simp only [wW]
    refine ⟨many, 1, rfl, rfl, trivial, _, 0, many - 1, rfl, kns_ms hp, fun M3 h3 => ?_⟩
    have e : areWh (.tup ms) 0 (many - 1) = true := List.all_eq_true.mpr hp
    rw [e]
    simp only [wW]
    refine ⟨_, ms, rfl, .inl rfl, cmpL_ms hp, fun M4 h4 => ?_⟩
    rw [hr]
    exact hkk M4 (h2.trans (h3.trans h4))
  · rw [show (xs.all fun _ => true) = true by simp]
    exact h M2 (h1.trans h2)
/-! ### House -/
/-- dict comprehensions by an invariant -/
theorem dcGo_inv {T : DIt} {g : Tg} {wt : WT} {wk wv : WE} {ρ : Ro} {fin : MO → Mp → Prop} (J : List D → MO → Mp → Prop) (keep : ∀ done acc M, J done acc M → T.keep M) : ∀ (todo done : List D) (acc : MO) (M : Mp), J done acc M →
    (∀ x pre post, todo = pre ++ x :: post → ∀ acc M (k : MO → Mp → Prop), J (done ++ pre) acc M → (∀ acc' M', J (done ++ pre ++ [x]) acc' M' → k acc' M') → ∃ ρ1, g.asn x ρ = some ρ1 ∧ wt ρ1 M fun b M1 => if b = true then wk ρ1 M1 fun kd M2 => wv ρ1 M2 fun vd M3 => ∃ acc', dput kd vd acc = some acc' ∧ k acc' M3 else k acc M1) →
    (∀ acc M, J (done ++ todo) acc M → fin acc M) → dcGo T g wt wk wv ρ fin todo acc M
  | [], done, acc, M, h, _, hf => by
    unfold dcGo
    exact ⟨keep _ _ _ h, hf acc M (by rw [List.append_nil]; exact h)⟩
  | x :: xs, done, acc, M, h, hs, hf => by
    unfold dcGo
    refine ⟨keep _ _ _ h, hs x [] xs rfl acc M (fun acc' M' => dcGo T g wt wk wv ρ fin xs acc' M') (by rw [List.append_nil]; exact h) fun acc' M' h' => ?_⟩
    rw [List.append_nil] at h'
    refine dcGo_inv J keep xs (done ++ [x]) acc' M' h' (fun y pre post e => ?_) fun acc M h => hf acc M (by rw [List.append_assoc] at h; exact h)
    have := hs y (x :: pre) post (by rw [e]; rfl)
    simpa [List.append_assoc] using this
theorem lt_irr (x : D) : ltP x x = false := by
  unfold ltP PySem.W.dataLt
  exact PyProof.Rows.lex_irrefl _
theorem lt_trans' {x y z : D} (h1 : ltP x y = true) (h2 : ltP y z = true) : ltP x z = true := PyProof.Rows.lex_trans _ _ _ h1 h2
theorem ris_pair : ∀ {xs : List D}, risB xs = true → xs.Pairwise fun x y => ltP x y = true
  | [], _ => .nil
  | [x], _ => .cons (fun y hy => by cases hy) .nil
  | x :: y :: r, h => by
    unfold risB at h
    rw [Bool.and_eq_true] at h
    have ih := ris_pair h.2
    refine .cons (fun z hz => ?_) ih
    rcases List.mem_cons.mp hz with rfl | hz
    · exact h.1
    · exact lt_trans' h.1 (List.rel_of_pairwise_cons ih hz)
theorem ris_nodup {xs : List D} (h : risB xs = true) : xs.Nodup := (ris_pair h).imp fun {a b} q e => by subst e; rw [lt_irr] at q; cases q
theorem dc_k {T : DIt} {g : Tg} {wk wv : WE} {ρ : Ro} {M : Mp} {fin : MO → Mp → Prop} (kf : D → Key) (nd : (T.items.map kf).Nodup) (keep : ∀ M2, Keep M M2 → T.keep M2)
    (hs : ∀ x ∈ T.items, ∀ M2 (k : D → D → Mp → Prop), Keep M M2 → (∀ kd vd M3, keyD kd = some (kf x) → Keep M M3 → k kd vd M3) → ∃ ρ1, g.asn x ρ = some ρ1 ∧ wk ρ1 M2 fun kd M3 => wv ρ1 M3 fun vd M4 => k kd vd M4)
    (hf : ∀ kvs M2, Keep M M2 → kvs.map (·.1) = T.items.map kf → fin (.dK kvs) M2) : dcGo T g wYes wk wv ρ fin T.items (.dK []) M := by
  refine dcGo_inv (fun done acc M2 => Keep M M2 ∧ ∃ kvs, acc = .dK kvs ∧ kvs.map (·.1) = done.map kf) (fun _ _ M2 h => keep M2 h.1) T.items [] (.dK []) M ⟨.refl M, [], rfl, rfl⟩ (fun x pre post e acc M2 k h hk => ?_) fun acc M2 h => ?_
  · obtain ⟨h2, kvs, rfl, ek⟩ := h
    obtain ⟨ρ1, e1, w1⟩ := hs x (by rw [e]; simp) M2 (fun kd vd M4 => ∃ acc', dput kd vd (.dK kvs) = some acc' ∧ k acc' M4) h2 fun kd vd M3 ekd h3 => by
      have hn : kf x ∉ kvs.map (·.1) := by
        rw [ek]
        intro hm
        rw [e, List.map_append, List.map_cons] at nd
        exact (List.nodup_append.mp nd).2.2 _ (by simpa using hm) _ List.mem_cons_self rfl
      refine ⟨.dK (kvs ++ [(kf x, vd)]), ?_, hk _ M3 ⟨h3, _, rfl, ?_⟩⟩
      · unfold dput
        simp only [ekd, if_neg hn]
      · rw [List.map_append, ek]; simp
    exact ⟨ρ1, e1, yes_if w1⟩
  · obtain ⟨h2, kvs, rfl, ek⟩ := h
    exact hf kvs M2 h2 ek
theorem dc_t {T : DIt} {g : Tg} {wk wv : WE} {ρ : Ro} {M : Mp} {P : Program} {w : World} {fin : MO → Mp → Prop} (kf : D → List Key) (nd : (T.items.map kf).Nodup) (keep : ∀ M2, Keep M M2 → T.keep M2)
    (hs : ∀ x ∈ T.items, ∀ M2 (k : D → D → Mp → Prop), Keep M M2 → (∀ ds vd M3, keysD ds = some (kf x) → Keep M M3 → k (.tup ds) vd M3) → ∃ ρ1, g.asn x ρ = some ρ1 ∧ wk ρ1 M2 fun kd M3 => wv ρ1 M3 fun vd M4 => k kd vd M4)
    (hf : ∀ kvs M2, Keep M M2 → kvs.map (·.1) = T.items.map kf → fin (.dX P w kvs) M2) : dcGo T g wYes wk wv ρ fin T.items (.dX P w []) M := by
  refine dcGo_inv (fun done acc M2 => Keep M M2 ∧ ∃ kvs, acc = .dX P w kvs ∧ kvs.map (·.1) = done.map kf) (fun _ _ M2 h => keep M2 h.1) T.items [] (.dX P w []) M ⟨.refl M, [], rfl, rfl⟩ (fun x pre post e acc M2 k h hk => ?_) fun acc M2 h => ?_
  · obtain ⟨h2, kvs, rfl, ek⟩ := h
    obtain ⟨ρ1, e1, w1⟩ := hs x (by rw [e]; simp) M2 (fun kd vd M4 => ∃ acc', dput kd vd (.dX P w kvs) = some acc' ∧ k acc' M4) h2 fun ds vd M3 ekd h3 => by
      have hn : kf x ∉ kvs.map (·.1) := by
        rw [ek]
        intro hm
        rw [e, List.map_append, List.map_cons] at nd
        exact (List.nodup_append.mp nd).2.2 _ (by simpa using hm) _ List.mem_cons_self rfl
      refine ⟨.dX P w (kvs ++ [(kf x, vd)]), ?_, hk _ M3 ⟨h3, _, rfl, ?_⟩⟩
      · unfold dput
        simp only [ekd, if_neg hn]
      · rw [List.map_append, ek]; simp
    exact ⟨ρ1, e1, yes_if w1⟩
  · obtain ⟨h2, kvs, rfl, ek⟩ := h
    exact hf kvs M2 h2 ek
/-- dict comprehensions, their values told -/
theorem dc_kV {T : DIt} {g : Tg} {wk wv : WE} {ρ : Ro} {M : Mp} {fin : MO → Mp → Prop} (kf : D → Key) (PV : D → D → Mp → Prop) (st : ∀ x vd M M', PV x vd M → Keep M M' → PV x vd M') (nd : (T.items.map kf).Nodup) (keep : ∀ M2, Keep M M2 → T.keep M2)
    (hs : ∀ x ∈ T.items, ∀ M2 (k : D → D → Mp → Prop), Keep M M2 → (∀ kd vd M3, keyD kd = some (kf x) → PV x vd M3 → Keep M2 M3 → k kd vd M3) → ∃ ρ1, g.asn x ρ = some ρ1 ∧ wk ρ1 M2 fun kd M3 => wv ρ1 M3 fun vd M4 => k kd vd M4)
    (hf : ∀ kvs M2, Keep M M2 → PySem.Paired (fun x (kv : Key × D) => kv.1 = kf x ∧ PV x kv.2 M2) T.items kvs → fin (.dK kvs) M2) : dcGo T g wYes wk wv ρ fin T.items (.dK []) M := by
  refine dcGo_inv (fun done acc M2 => Keep M M2 ∧ ∃ kvs, acc = .dK kvs ∧ PySem.Paired (fun x (kv : Key × D) => kv.1 = kf x ∧ PV x kv.2 M2) done kvs) (fun _ _ M2 h => keep M2 h.1) T.items [] (.dK []) M ⟨.refl M, [], rfl, .nil⟩ (fun x pre post e acc M2 k h hk => ?_) fun acc M2 h => ?_
  · obtain ⟨h2, kvs, rfl, ek⟩ := h
    have ek' : kvs.map (·.1) = ([] ++ pre).map kf := by
      generalize ([] ++ pre) = l at ek
      clear hk
      induction ek with
      | nil => rfl
      | cons h t ih => rw [List.map_cons, List.map_cons, ih, h.1]
    obtain ⟨ρ1, e1, w1⟩ := hs x (by rw [e]; simp) M2 (fun kd vd M4 => ∃ acc', dput kd vd (.dK kvs) = some acc' ∧ k acc' M4) h2 fun kd vd M3 ekd pv h3 => by
      have hn : kf x ∉ kvs.map (·.1) := by
        rw [ek']
        intro hm
        rw [e, List.map_append, List.map_cons] at nd
        exact (List.nodup_append.mp nd).2.2 _ (by simpa using hm) _ List.mem_cons_self rfl
      refine ⟨.dK (kvs ++ [(kf x, vd)]), ?_, hk _ M3 ⟨h2.trans h3, _, rfl, ?_⟩⟩
      · unfold dput
        simp only [ekd, if_neg hn]
      · exact PySem.Paired.snoc (PySem.Paired.mono (fun a b q => ⟨q.1, st _ _ _ _ q.2 h3⟩) ek) ⟨rfl, pv⟩
    exact ⟨ρ1, e1, yes_if w1⟩
  · obtain ⟨h2, kvs, rfl, ek⟩ := h
    rw [List.nil_append] at ek
    exact hf kvs M2 h2 ek
/-! ### a house as it stands -/
def kPair (x : D) : List Key := match x with
  | .tup [.int i, .int j] => [.inl i, .inl j]
  | _ => []
def kMark (x : D) : Key := match x with
  | .int i => .inl i
  | _ => .inr ""
def houseL (m r l p q : D) : List (Str × D) := [("many", m), ("rules", r), ("lists", l), ("pairs_by", p), ("marks_by", q)]
/-- a rule's dict, a list's dict -/
def PrK (c : Cs) (r : D) (v : D) (M : Mp) : Prop := ∀ nm prs, r = .tup [.str nm, .tup prs] → ∃ pd pk, v = .ref pd ∧ M pd = some (.dX c.P c.w pk) ∧ pk.map Prod.fst = prs.map kPair
def MkK (r : D) (v : D) (M : Mp) : Prop := ∀ nm ms, r = .tup [.str nm, .tup ms] → ∃ pd pk, v = .ref pd ∧ M pd = some (.dK pk) ∧ pk.map Prod.fst = ms.map kMark
def kName (x : D) : Key := match nameD x with
  | .str nm => .inr nm
  | _ => .inl 0
def HouseAt (c : Cs) (M : Mp) (hh : Addr) (n : Int) (rs ls : List D) : Prop := ∃ d1 d2 kv1 kv2, M hh = some (.ins c.House (houseL (.int n) (.tup rs) (.tup ls) (.ref d1) (.ref d2))) ∧ M d1 = some (.dK kv1) ∧ M d2 = some (.dK kv2) ∧
  PySem.Paired (fun x (kv : Key × D) => kv.1 = kName x ∧ PrK c x kv.2 M) rs kv1 ∧ PySem.Paired (fun x (kv : Key × D) => kv.1 = kName x ∧ MkK x kv.2 M) ls kv2
theorem PrK.keep {c : Cs} {r v : D} {M M' : Mp} (h : PrK c r v M) (k : ∀ a o, (∀ C fs, o ≠ .ins C fs) → M a = some o → M' a = some o) : PrK c r v M' := fun nm prs e => by
  obtain ⟨pd, pk, e1, e2, e3⟩ := h nm prs e
  exact ⟨pd, pk, e1, k _ _ (fun C fs q => by cases q) e2, e3⟩
theorem MkK.keep {r v : D} {M M' : Mp} (h : MkK r v M) (k : ∀ a o, (∀ C fs, o ≠ .ins C fs) → M a = some o → M' a = some o) : MkK r v M' := fun nm prs e => by
  obtain ⟨pd, pk, e1, e2, e3⟩ := h nm prs e
  exact ⟨pd, pk, e1, k _ _ (fun C fs q => by cases q) e2, e3⟩
theorem HouseAt.keep {c : Cs} {M M' : Mp} {hh : Addr} {n : Int} {rs ls : List D} (h : HouseAt c M hh n rs ls) (k : Keep M M') : HouseAt c M' hh n rs ls := by
  obtain ⟨d1, d2, kv1, kv2, e0, e1, e2, p1, p2⟩ := h
  exact ⟨d1, d2, kv1, kv2, k _ _ e0, k _ _ e1, k _ _ e2, p1.mono fun a b q => ⟨q.1, q.2.keep fun a o _ e => k a o e⟩, p2.mono fun a b q => ⟨q.1, q.2.keep fun a o _ e => k a o e⟩⟩
def S_House_init (c : Cs) : Spec := fun ds M Q => ∃ p many rs ls, ds = [.ref p, .int many, .tup rs, .tup ls] ∧ M p = some (.ins c.House []) ∧ 1 ≤ many ∧ many ≤ 4 ∧ RulesOk many rs ∧ ListsOk many ls ∧
  ∀ M' d1 d2, (∀ a o, a ≠ p → M a = some o → M' a = some o) → M' p = some (.ins c.House [("many", .int many), ("rules", .tup rs), ("lists", .tup ls), ("pairs_by", .ref d1), ("marks_by", .ref d2)]) → HouseAt c M' p many rs ls → Q .non M'
abbrev N_House_init : List Str := ["self", "many", "rules", "lists", "pair", "name", "pairs", "mark", "marks"]
def ir_House_init (c : Cs) : Ss := (.cons (.ife (.not_ (.call "is_whole" (S_is_whole c) (.cons (.var 1) (.cons (.int 1) (.cons (.glob "MOST_MARKS" (.int 4)) .nil))))) (.cons .never .nil) .nil) (.cons (.ife (.not_ (.call "are_rules" (S_are_rules c) (.cons (.var 2) (.cons (.var 1) .nil)))) (.cons .never .nil) .nil) (.cons (.ife (.not_ (.call "are_lists" (S_are_lists c) (.cons (.var 3) (.cons (.var 1) .nil)))) (.cons .never .nil) .nil) (.cons (.fld (.var 0) c.House "many" (.var 1)) (.cons (.fld (.var 0) c.House "rules" (.var 2)) (.cons (.fld (.var 0) c.House "lists" (.var 3)) (.cons (.fld (.var 0) c.House "pairs_by" (.dc .k [("name", 5), ("pairs", 6)] (.tup (.cons (.name 5) (.cons (.name 6) .nil))) (.seq (.var 2)) .none (.var 5) (.dc (.t c.P c.w) [("pair", 4)] (.name 4) (.seq (.var 6)) .none (.var 4) (.bl true)))) (.cons (.fld (.var 0) c.House "marks_by" (.dc .k [("name", 5), ("marks", 8)] (.tup (.cons (.name 5) (.cons (.name 8) .nil))) (.seq (.var 3)) .none (.var 5) (.dc .k [("mark", 7)] (.name 7) (.seq (.var 8)) .none (.var 7) (.bl true)))) .nil))))))))
theorem nodup_on {α β : Type} {f : α → β} : ∀ {xs : List α}, xs.Nodup → (∀ x ∈ xs, ∀ y ∈ xs, f x = f y → x = y) → (xs.map f).Nodup
  | [], _, _ => .nil
  | x :: xs, h, hi => by
    rw [List.map_cons]
    rw [List.nodup_cons] at h ⊢
    refine ⟨fun hm => ?_, nodup_on h.2 fun a ha b hb => hi a (List.mem_cons_of_mem _ ha) b (List.mem_cons_of_mem _ hb)⟩
    obtain ⟨y, hy, e⟩ := List.mem_map.mp hm
    have := hi y (List.mem_cons_of_mem _ hy) x List.mem_cons_self e
    subst this
    exact h.1 hy
theorem names_nodup {xs : List D} (hc : ∀ x ∈ xs, called x) (hr : risB (xs.map nameD) = true) : (xs.map kName).Nodup := by
  have h := ris_nodup hr
  have e : xs.map kName = (xs.map nameD).map fun d => match d with | .str nm => (.inr nm : Key) | _ => .inl 0 := by rw [List.map_map]; rfl
  rw [e]
  refine nodup_on h fun a ha b hb e => ?_
  obtain ⟨x, hx, rfl⟩ := List.mem_map.mp ha
  obtain ⟨y, hy, rfl⟩ := List.mem_map.mp hb
  obtain ⟨n1, d1, rfl, _⟩ := hc x hx
  obtain ⟨n2, d2, rfl, _⟩ := hc y hy
  have e' : (Sum.inr n1 : Key) = Sum.inr n2 := e
  injection e' with e'
  show D.str n1 = D.str n2
  rw [e']
theorem pairs_nodup {prs : List D} {lo hi : Int} (hp : ∀ p ∈ prs, isPr p lo hi = true) (hr : risB prs = true) : (prs.map kPair).Nodup := by
  refine nodup_on (ris_nodup hr) fun a ha b hb e => ?_
  obtain ⟨i, j, rfl⟩ := isPr_ints (hp a ha)
  obtain ⟨i', j', rfl⟩ := isPr_ints (hp b hb)
  have e' : ([Sum.inl i, Sum.inl j] : List Key) = [Sum.inl i', Sum.inl j'] := e
  injection e' with e1 e2
  injection e2 with e2 _
  injection e1 with e1
  injection e2 with e2
  rw [e1, e2]
theorem marks_nodup {ms : List D} {lo hi : Int} (hp : ∀ p ∈ ms, isWh p lo hi = true) (hr : risB ms = true) : (ms.map kMark).Nodup := by
  refine nodup_on (ris_nodup hr) fun a ha b hb e => ?_
  obtain ⟨i, rfl⟩ := isWh_int (hp a ha)
  obtain ⟨i', rfl⟩ := isWh_int (hp b hb)
  have e' : (Sum.inl i : Key) = Sum.inl i' := e
  injection e' with e1
  rw [e1]
theorem sz_pair {x y : D} (h : sz (.tup [x, y])) : sz y := (sz_tup h).2 y (by simp)
theorem put_many {a : D} : putD ("many" : Str) a ([] : List (Str × D)) = ([("many", a)] : List (Str × D)) := rfl
theorem put_rules {a b : D} : putD ("rules" : Str) b ([("many", a)] : List (Str × D)) = ([("many", a), ("rules", b)] : List (Str × D)) := by
  unfold putD
  rw [if_neg (by decide +kernel)]
  rfl
theorem put_lists {a b d : D} : putD ("lists" : Str) d ([("many", a), ("rules", b)] : List (Str × D)) = ([("many", a), ("rules", b), ("lists", d)] : List (Str × D)) := by
  unfold putD
  rw [if_neg (by decide +kernel)]
  unfold putD
  rw [if_neg (by decide +kernel)]
  rfl
theorem put_pairs_by {a b d e : D} : putD ("pairs_by" : Str) e ([("many", a), ("rules", b), ("lists", d)] : List (Str × D)) = ([("many", a), ("rules", b), ("lists", d), ("pairs_by", e)] : List (Str × D)) := by
  unfold putD
  rw [if_neg (by decide +kernel)]
  unfold putD
  rw [if_neg (by decide +kernel)]
  unfold putD
  rw [if_neg (by decide +kernel)]
  rfl
theorem put_marks_by {a b d e f : D} : putD ("marks_by" : Str) f ([("many", a), ("rules", b), ("lists", d), ("pairs_by", e)] : List (Str × D)) = ([("many", a), ("rules", b), ("lists", d), ("pairs_by", e), ("marks_by", f)] : List (Str × D)) := by
  unfold putD
  rw [if_neg (by decide +kernel)]
  unfold putD
  rw [if_neg (by decide +kernel)]
  unfold putD
  rw [if_neg (by decide +kernel)]
  unfold putD
  rw [if_neg (by decide +kernel)]
  rfl
theorem wp_House_init (c : Cs) {p : Addr} {many : Int} {rs ls : List D} {M : Mp} {Q : DQ} (zr : sz (.tup rs)) (zl : sz (.tup ls)) (hp : M p = some (.ins c.House [])) (m1 : 1 ≤ many) (m2 : many ≤ 4) (hr : RulesOk many rs) (hl : ListsOk many ls)
    (h : ∀ M' d1 d2, (∀ a o, a ≠ p → M a = some o → M' a = some o) → M' p = some (.ins c.House [("many", .int many), ("rules", .tup rs), ("lists", .tup ls), ("pairs_by", .ref d1), ("marks_by", .ref d2)]) → HouseAt c M' p many rs ls → Q .non M') :
    (ir_House_init c).wp (bodyEnds Q) [some (.ref p), some (.int many), some (.tup rs), some (.tup ls), none, none, none, none, none] M := by
  simp only [wW, ir_House_init]
  refine ⟨_, 1, 4, rfl, kn_int, ?_⟩
  have e1 : isWh (.int many) 1 4 = true := by simp [isWh, m1, m2]
  simp only [wW, e1, Bool.not_true]
  refine ⟨rs, many, rfl, hr, fun M1 k1 => ?_⟩
  simp only [wW, Bool.not_true]
  refine ⟨ls, many, rfl, hl, fun M2 k2 => ?_⟩
  simp only [wW, Bool.not_true]
  have hp2 : M2 p = some (.ins c.House []) := k2 _ _ (k1 _ _ hp)
  refine ⟨_, hp2, by simp, _, up_same, by rw [put_many]; simp, _, up_same, by rw [put_many, put_rules]; simp, _, seqT_t, (sz_tup zr).1, ?_⟩
  rw [put_many, put_rules, put_lists]
  generalize hM3 : up (up (up M2 p _) p _) p _ = M3
  have p3 : M3 p = some (.ins c.House [("many", .int many), ("rules", .tup rs), ("lists", .tup ls)]) := by rw [← hM3]; exact up_same
  have k3 : ∀ a o, a ≠ p → M a = some o → M3 a = some o := fun a o ha e => by
    rw [← hM3, up_ne ha, up_ne ha, up_ne ha]
    exact k2 _ _ (k1 _ _ e)
  clear hM3
  refine dc_kV (T := ⟨rs, fun _ => True⟩) kName (PrK c) (fun x vd M M' h k => h.keep fun a o _ e => k a o e) (names_nodup hr.called hr.rise) (fun _ _ => trivial) (fun x hx M4 k k4 hk => ?_) fun kv1 M4 k4 ek q hq => ?_
  · obtain ⟨nm, prs, rfl, hn, hp', hr'⟩ := hr.each x hx
    refine ⟨_, rfl, ?_⟩
    simp only [wW]
    refine ⟨_, seqT_t, (sz_tup (sz_pair ((sz_tup zr).2 _ hx))).1, ?_⟩
    refine dc_t (T := ⟨prs, fun _ => True⟩) (P := c.P) (w := c.w) kPair (pairs_nodup hp' hr') (fun _ _ => trivial) (fun y hy M5 k' k5 hk' => ?_) fun kvs M5 k5 ek q hq => ?_
    · obtain ⟨i, j, rfl⟩ := isPr_ints (hp' y hy)
      refine ⟨_, rfl, ?_⟩
      simp only [wW]
      exact hk' _ _ M5 rfl k5
    · refine hk _ _ _ rfl (fun nm' prs' e => ?_) (k5.trans (.new hq))
      cases e
      exact ⟨q, kvs, rfl, up_same, ek⟩
  · have p4 : M4 p = some (.ins c.House [("many", .int many), ("rules", .tup rs), ("lists", .tup ls)]) := k4 _ _ p3
    have np : p ≠ q := fun e => by subst e; rw [p4] at hq; cases hq
    refine ⟨_, by rw [up_ne np]; exact p4, by simp, _, seqT_t, (sz_tup zl).1, ?_⟩
    rw [put_pairs_by]
    generalize hM5 : up (up M4 q _) p _ = M5
    have p5 : M5 p = some (.ins c.House [("many", .int many), ("rules", .tup rs), ("lists", .tup ls), ("pairs_by", .ref q)]) := by rw [← hM5]; exact up_same
    have q5 : M5 q = some (.dK kv1) := by rw [← hM5, up_ne (Ne.symm np)]; exact up_same
    have k45 : ∀ a o, (∀ C fs, o ≠ .ins C fs) → M4 a = some o → M5 a = some o := fun a o ho e => by
      have ha : a ≠ p := fun z => by subst z; rw [p4] at e; cases e; exact ho _ _ rfl
      have nq : a ≠ q := fun z => by subst z; rw [e] at hq; cases hq
      rw [← hM5, up_ne ha, up_ne nq]
      exact e
    have k5 : ∀ a o, a ≠ p → M a = some o → M5 a = some o := fun a o ha e => by
      have e4 := k4 _ _ (k3 a o ha e)
      have nq : a ≠ q := fun z => by subst z; rw [e4] at hq; cases hq
      rw [← hM5, up_ne ha, up_ne nq]
      exact e4
    clear hM5
    have ek5 : PySem.Paired (fun x (kv : Key × D) => kv.1 = kName x ∧ PrK c x kv.2 M5) rs kv1 := ek.mono fun a b z => ⟨z.1, z.2.keep k45⟩
    refine dc_kV (T := ⟨ls, fun _ => True⟩) kName MkK (fun x vd M M' h k => h.keep fun a o _ e => k a o e) (names_nodup hl.called hl.rise) (fun _ _ => trivial) (fun x hx M6 k k6 hk => ?_) fun kv2 M6 k6 ek2 q2 hq2 => ?_
    · obtain ⟨nm, ms, rfl, hn, hp', hr'⟩ := hl.each x hx
      refine ⟨_, rfl, ?_⟩
      simp only [wW]
      refine ⟨_, seqT_t, (sz_tup (sz_pair ((sz_tup zl).2 _ hx))).1, ?_⟩
      refine dc_k (T := ⟨ms, fun _ => True⟩) kMark (marks_nodup hp' hr') (fun _ _ => trivial) (fun y hy M7 k' k7 hk' => ?_) fun kvs M7 k7 ek q hq => ?_
      · obtain ⟨i, rfl⟩ := isWh_int (hp' y hy)
        refine ⟨_, rfl, ?_⟩
        simp only [wW]
        exact hk' _ _ M7 rfl k7
      · refine hk _ _ _ rfl (fun nm' ms' e => ?_) (k7.trans (.new hq))
        cases e
        exact ⟨q, kvs, rfl, up_same, ek⟩
    · have p6 : M6 p = some (.ins c.House [("many", .int many), ("rules", .tup rs), ("lists", .tup ls), ("pairs_by", .ref q)]) := k6 _ _ p5
      have np2 : p ≠ q2 := fun e => by subst e; rw [p6] at hq2; cases hq2
      have nqq : q ≠ q2 := fun e => by subst e; rw [k6 _ _ q5] at hq2; cases hq2
      refine ⟨_, by rw [up_ne np2]; exact p6, by simp, ?_⟩
      rw [put_marks_by]
      have k67 : ∀ a o, (∀ C fs, o ≠ .ins C fs) → M6 a = some o → up (up M6 q2 (.dK kv2)) p (.ins c.House [("many", .int many), ("rules", .tup rs), ("lists", .tup ls), ("pairs_by", .ref q), ("marks_by", .ref q2)]) a = some o := fun a o ho e => by
        have ha : a ≠ p := fun z => by subst z; rw [p6] at e; cases e; exact ho _ _ rfl
        have nq : a ≠ q2 := fun z => by subst z; rw [e] at hq2; cases hq2
        rw [up_ne ha, up_ne nq]
        exact e
      refine h _ q q2 (fun a o ha e => ?_) up_same ⟨q, q2, kv1, kv2, up_same, ?_, ?_, ek5.mono fun a b z => ⟨z.1, z.2.keep fun a o ho e => k67 a o ho (k6 a o e)⟩, ek2.mono fun a b z => ⟨z.1, z.2.keep k67⟩⟩
      · have e6 := k6 _ _ (k5 a o ha e)
        have nq : a ≠ q2 := fun z => by subst z; rw [e6] at hq2; cases hq2
        rw [up_ne ha, up_ne nq]
        exact e6
      · rw [up_ne (Ne.symm np), up_ne nqq]; exact k6 _ _ q5
      · rw [up_ne (Ne.symm np2)]; exact up_same
end DL

set_option Elab.async false
set_option linter.all false
set_option maxRecDepth 100000
set_option maxHeartbeats 4000000
/-! W3: nets, of good values. -/
namespace DL
open PySem L2
def tie (nm : Str) (is : List Int) : D := .tup (.str nm :: is.map D.int)
structure TiesOk (knots : Int) (n : Nat) (xs : List D) : Prop where
  each : ∀ x ∈ xs, ∃ nm is, x = tie nm is ∧ is.length = n ∧ nameS nm = true ∧ ∀ i ∈ is, 0 ≤ i ∧ i ≤ knots - 1
  rise : risB xs = true
theorem alike_ints : ∀ (is js : List Int), PySem.W.alikeAll (pys (is.map D.int)) (pys (js.map D.int)) = true
  | [], _ => by simp [pys, PySem.W.alikeAll]
  | _ :: _, [] => by simp [pys, PySem.W.alikeAll]
  | i :: is, j :: js => by simp [pys, py, PySem.W.alikeAll, PySem.W.alike, alike_ints is js]
theorem depth_ints : ∀ (is : List Int), PyData.depthAll (pys (is.map D.int)) ≤ 1
  | [] => by simp [pys, PyData.depthAll]
  | i :: is => by
    have := depth_ints is
    simp [pys, py, PyData.depthAll, PyData.depth]
    omega
theorem plains_ints : ∀ (is : List Int), plains (is.map D.int) = true
  | [] => rfl
  | i :: is => by
    show (plain (.int i) && plains (is.map D.int)) = true
    rw [plains_ints is]; rfl
theorem cmpP_tie (n1 n2 : Str) (is js : List Int) : cmpP (tie n1 is) (tie n2 js) := by
  refine ⟨?_, ?_, ?_, ?_, ?_⟩
  · show (plain (.str n1) && plains (is.map D.int)) = true
    rw [plains_ints]; rfl
  · show (plain (.str n2) && plains (js.map D.int)) = true
    rw [plains_ints]; rfl
  · simp [tie, py, pys, PySem.W.alike, PySem.W.alikeAll, alike_ints]
  · simp [tie, py]
  · have := depth_ints is
    simp [tie, py, pys, PyData.depth, PyData.depthAll]
    omega
theorem TiesOk.cmp {knots : Int} {n : Nat} {xs : List D} (h : TiesOk knots n xs) : cmpL xs := cmpL_of fun x hx y hy => by
  obtain ⟨n1, is, rfl, _⟩ := h.each x hx
  obtain ⟨n2, js, rfl, _⟩ := h.each y hy
  exact cmpP_tie n1 n2 is js
def S_are_ties (_ : Cs) : Spec := fun ds M Q => ∃ xs knots n most, ds = [.tup xs, .int knots, .int (n + 1 : Nat), .int most] ∧ (xs.length : Int) ≤ most ∧ TiesOk knots n xs ∧ ∀ M', Keep M M' → Q (.bl true) M'
abbrev N_are_ties : List Str := ["thing", "knots", "size", "most", "tie"]
def ir_are_ties (c : Cs) : Ss := (.cons (.ife (.bop .Or (.cons (.not_ (.isa (.var 0) (.bty "tuple") (isaB c "tuple"))) (.cons (.cmp .Gt (.bcall .len (.cons (.var 0) .nil)) (.var 3)) .nil))) (.cons (.ret (.bl false)) .nil) .nil) (.cons (.for_ (.name 4) (.seq (.var 0)) (.cons (.ife (.bop .Or (.cons (.not_ (.isa (.var 4) (.bty "tuple") (isaB c "tuple"))) (.cons (.cmp .NotEq (.bcall .len (.cons (.var 4) .nil)) (.var 2)) (.cons (.not_ (.call "is_name" (S_is_name c) (.cons (.idx (.var 4) (.int 0)) .nil))) .nil)))) (.cons (.ret (.bl false)) .nil) .nil) (.cons (.ife (.not_ (.call "are_whole" (S_are_whole c) (.cons (.slc (.var 4) (.some (.int 1)) .none) (.cons (.int 0) (.cons (.bin .Sub (.var 1) (.int 1)) .nil))))) (.cons (.ret (.bl false)) .nil) .nil) .nil))) (.cons (.ret (.call "are_rising" (S_are_rising c) (.cons (.var 0) .nil))) .nil)))
theorem wp_are_ties (c : Cs) {xs : List D} {knots most : Int} {n : Nat} {M : Mp} {Q : DQ} (hl : (xs.length : Int) ≤ most) (ok : TiesOk knots n xs) (hz : xs.length ≤ sizeLine) (h : ∀ M', Keep M M' → Q (.bl true) M') :
    (ir_are_ties c).wp (bodyEnds Q) [some (.tup xs), some (.int knots), some (.int (n + 1 : Nat)), some (.int most), none] M := by
  simp only [wW, ir_are_ties]
  refine ⟨true, rfl, ?_⟩
  simp only [Bool.not_true, Bool.false_eq_true, if_false]
  refine len_t (ord_int ⟨_, rfl, ?_⟩)
  have e : decide (most < (xs.length : Int)) = false := decide_eq_false (by omega)
  simp only [e, Bool.false_eq_true, if_false]
  refine ⟨_, seqT_t, ?_⟩
  refine forGo_inv (T := ⟨xs, fun _ => True⟩) (fun _ ρ M' => Keep M M' ∧ ∃ v, ρ = [some (.tup xs), some (.int knots), some (.int (n + 1 : Nat)), some (.int most), v]) (fun _ _ _ _ => trivial) xs [] _ M ⟨.refl M, none, rfl⟩ (fun x hx done ρ M1 k hJ hk => ?_) fun ρ M1 hJ => ?_
  · obtain ⟨k1, v, rfl⟩ := hJ
    obtain ⟨nm, is, rfl, hi, hn, hr⟩ := ok.each x hx
    refine ⟨_, rfl, ?_⟩
    simp only [wW]
    refine ⟨true, rfl, ?_⟩
    simp only [Bool.not_true, Bool.false_eq_true, if_false]
    refine len_t (eq_int ⟨_, rfl, ?_⟩)
    have e2 : ((D.str nm :: is.map D.int).length : Int) = ((n + 1 : Nat) : Int) := by rw [List.length_cons, List.length_map, hi]
    simp only [e2, decide_true, Bool.not_true, Bool.false_eq_true, if_false, if_true]
    refine ix_t 0 rfl ⟨_, rfl, kn_str, fun y e => by cases e; exact nameS_len hn, fun M2 h2 => ?_⟩
    have e3 : isNm (.str nm) = true := hn
    simp only [wW, e3, Bool.not_true]
    refine slD_t (cut_one _) ⟨knots, 1, rfl, rfl, trivial, _, 0, knots - 1, rfl, ⟨kn_tup, fun ys ey y hy => ?_⟩, fun M3 h3 => ?_⟩
    · cases ey
      obtain ⟨i, _, rfl⟩ := List.mem_map.mp hy
      exact kn_int
    · have e4 : areWh (.tup (List.drop 1 (D.str nm :: is.map D.int))) 0 (knots - 1) = true := by
        show (is.map D.int).all (fun x => isWh x 0 (knots - 1)) = true
        rw [List.all_map, List.all_eq_true]
        intro i hi'
        obtain ⟨a, b⟩ := hr i hi'
        simp [isWh, a, b]
      simp only [wW, e4, Bool.not_true]
      exact hk _ M3 ⟨k1.trans (h2.trans h3), _, rfl⟩
  · obtain ⟨k1, v, rfl⟩ := hJ
    simp only [wW]
    refine ⟨_, xs, rfl, .inl rfl, ok.cmp, fun M2 h2 => ?_⟩
    rw [ok.rise]
    exact h M2 (k1.trans h2)
/-! ### data at large -/
def lay (d : D) : Prop := (py d).canLay0 = true
theorem lays_of : ∀ {ds : List D}, (∀ d ∈ ds, lay d) → PyData.canLayAll0 (pys ds) = true
  | [], _ => by unfold pys PyData.canLayAll0; rfl
  | d :: ds, h => by
    unfold pys PyData.canLayAll0
    rw [h d List.mem_cons_self, lays_of fun e he => h e (List.mem_cons_of_mem _ he)]; rfl
theorem lay_tup {ds : List D} (h : ∀ d ∈ ds, lay d) : lay (.tup ds) := by
  unfold lay py PyData.canLay0
  exact lays_of h
theorem lay_int (i : Int) : lay (.int i) := by unfold lay py PyData.canLay0; rfl
theorem lay_name {x : Str} (h : nameS x = true) : lay (.str x) := by
  unfold lay py PyData.canLay0 PyData.strOk
  unfold nameS at h
  rw [Bool.and_eq_true] at h
  have h2 := List.all_eq_true.mp h.2
  rw [← Array.all_toList, List.all_eq_true]
  intro c hc
  have h3 := h2 c hc
  unfold isLetter at h3
  rw [Bool.and_eq_true] at h3
  have a := of_decide_eq_true h3.1
  have b := of_decide_eq_true h3.2
  simp
  omega
theorem lay_tie {nm : Str} {is : List Int} (h : nameS nm = true) : lay (tie nm is) := lay_tup fun d hd => by
  rcases List.mem_cons.mp hd with rfl | hd
  · exact lay_name h
  · obtain ⟨i, _, rfl⟩ := List.mem_map.mp hd
    exact lay_int i
theorem deps_le {n : Nat} : ∀ {ds : List D}, (∀ d ∈ ds, (py d).depth ≤ n) → PyData.depthAll (pys ds) ≤ n
  | [], _ => by simp [pys, PyData.depthAll]
  | d :: ds, h => by
    have h1 := h d List.mem_cons_self
    have h2 := deps_le (ds := ds) fun e he => h e (List.mem_cons_of_mem _ he)
    simp [pys, PyData.depthAll]
    omega
theorem dep_le {n : Nat} {ds : List D} (h : ∀ d ∈ ds, (py d).depth ≤ n) : (py (.tup ds)).depth ≤ n + 1 := by
  have := deps_le h
  simp [py, PyData.depth]
  omega
theorem shaped_py {d : D} (hl : lay d) (h : (py d).depth ≤ 64) : SeqAt.shaped (py d) = true := by
  unfold SeqAt.shaped
  rw [show (py d).canLay0 = true from hl, decide_eq_true h]; rfl
theorem eq_self {neg : Bool} {d : D} {M : Mp} {Q : DQ} (hp : plain d = true) (hl : lay d) (hd : (py d).depth ≤ 64) (h : Q (.bl (!neg)) M) : eqD neg d d M Q := by
  refine eq_plain hp hp (shaped_py hl hd) (shaped_py hl hd) ?_
  rw [SeqAt.eqv_refl _ hl]
  cases neg <;> exact h
/-! ### Net -/
def netF (k l b : D) : List (Str × D) := [("knots", k), ("links", l), ("labels", b)]
theorem put_knots {a : D} : putD ("knots" : Str) a ([] : List (Str × D)) = ([("knots", a)] : List (Str × D)) := rfl
theorem put_links {a b : D} : putD ("links" : Str) b ([("knots", a)] : List (Str × D)) = ([("knots", a), ("links", b)] : List (Str × D)) := by
  unfold putD
  rw [if_neg (by decide +kernel)]
  rfl
theorem put_labels {a b d : D} : putD ("labels" : Str) d ([("knots", a), ("links", b)] : List (Str × D)) = netF a b d := by
  unfold putD
  rw [if_neg (by decide +kernel)]
  unfold putD
  rw [if_neg (by decide +kernel)]
  rfl
theorem look_knots {k l b : D} : (netF k l b).lookup ("knots" : Str) = some k := by
  unfold netF; rw [List.lookup_cons]; rw [show (("knots" : Str) == ("knots" : Str)) = true by decide +kernel]
theorem look_links {k l b : D} : (netF k l b).lookup ("links" : Str) = some l := by
  unfold netF; rw [List.lookup_cons, show (("links" : Str) == ("knots" : Str)) = false by decide +kernel]
  show List.lookup _ _ = _
  rw [List.lookup_cons, show (("links" : Str) == ("links" : Str)) = true by decide +kernel]
theorem look_labels {k l b : D} : (netF k l b).lookup ("labels" : Str) = some b := by
  unfold netF; rw [List.lookup_cons, show (("labels" : Str) == ("knots" : Str)) = false by decide +kernel]
  show List.lookup _ _ = _
  rw [List.lookup_cons, show (("labels" : Str) == ("links" : Str)) = false by decide +kernel]
  show List.lookup _ _ = _
  rw [List.lookup_cons, show (("labels" : Str) == ("labels" : Str)) = true by decide +kernel]
structure NetOk (knots : Int) (ls bs : List D) : Prop where
  k0 : 0 ≤ knots
  k1 : knots ≤ 60
  ll : ls.length ≤ 700
  bl : bs.length ≤ 400
  lk : TiesOk knots 2 ls
  lb : TiesOk knots 1 bs
def S_Net_init (c : Cs) : Spec := fun ds M Q => ∃ p knots ls bs, ds = [.ref p, .int knots, .tup ls, .tup bs] ∧ M p = some (.ins c.Net []) ∧ NetOk knots ls bs ∧
  ∀ M', (∀ a o, a ≠ p → M a = some o → M' a = some o) → M' p = some (.ins c.Net (netF (.int knots) (.tup ls) (.tup bs))) → Q .non M'
abbrev N_Net_init : List Str := ["self", "knots", "links", "labels"]
def ir_Net_init (c : Cs) : Ss := (.cons (.ife (.not_ (.call "is_whole" (S_is_whole c) (.cons (.var 1) (.cons (.int 0) (.cons (.glob "MOST_KNOTS" (.int 60)) .nil))))) (.cons .never .nil) .nil) (.cons (.ife (.not_ (.call "are_ties" (S_are_ties c) (.cons (.var 2) (.cons (.var 1) (.cons (.int 3) (.cons (.glob "MOST_LINKS" (.int 700)) .nil)))))) (.cons .never .nil) .nil) (.cons (.ife (.not_ (.call "are_ties" (S_are_ties c) (.cons (.var 3) (.cons (.var 1) (.cons (.int 2) (.cons (.glob "MOST_LABELS" (.int 400)) .nil)))))) (.cons .never .nil) .nil) (.cons (.fld (.var 0) c.Net "knots" (.var 1)) (.cons (.fld (.var 0) c.Net "links" (.var 2)) (.cons (.fld (.var 0) c.Net "labels" (.var 3)) .nil))))))
theorem wp_Net_init (c : Cs) {p : Addr} {knots : Int} {ls bs : List D} {M : Mp} {Q : DQ} (hp : M p = some (.ins c.Net [])) (ok : NetOk knots ls bs)
    (h : ∀ M', (∀ a o, a ≠ p → M a = some o → M' a = some o) → M' p = some (.ins c.Net (netF (.int knots) (.tup ls) (.tup bs))) → Q .non M') :
    (ir_Net_init c).wp (bodyEnds Q) [some (.ref p), some (.int knots), some (.tup ls), some (.tup bs)] M := by
  simp only [wW, ir_Net_init]
  refine ⟨_, 0, 60, rfl, kn_int, ?_⟩
  have e1 : isWh (.int knots) 0 60 = true := by simp [isWh, ok.k0, ok.k1]
  simp only [wW, e1, Bool.not_true]
  refine ⟨ls, knots, 2, 700, rfl, by have := ok.ll; omega, ok.lk, fun M1 k1 => ?_⟩
  simp only [wW, Bool.not_true]
  refine ⟨bs, knots, 1, 400, rfl, by have := ok.bl; omega, ok.lb, fun M2 k2 => ?_⟩
  simp only [wW, Bool.not_true]
  have hp2 : M2 p = some (.ins c.Net []) := k2 _ _ (k1 _ _ hp)
  refine ⟨_, hp2, by simp, _, up_same, by rw [put_knots]; simp, _, up_same, by rw [put_knots, put_links]; simp, ?_⟩
  rw [put_knots, put_links, put_labels]
  refine h _ (fun a o ha e => ?_) up_same
  rw [up_ne ha, up_ne ha, up_ne ha]
  exact k2 _ _ (k1 _ _ e)
theorem dep_tie (nm : Str) (is : List Int) : (py (tie nm is)).depth ≤ 2 := dep_le (n := 1) fun d hd => by
  rcases List.mem_cons.mp hd with rfl | hd
  · simp [py, PyData.depth]
  · obtain ⟨i, _, rfl⟩ := List.mem_map.mp hd
    simp [py, PyData.depth]
theorem plain_tie (nm : Str) (is : List Int) : plain (tie nm is) = true := (cmpP_tie nm nm is is).1
theorem plains_of : ∀ {ds : List D}, (∀ d ∈ ds, plain d = true) → plains ds = true
  | [], _ => rfl
  | d :: ds, h => by
    show (plain d && plains ds) = true
    rw [h d List.mem_cons_self, plains_of fun e he => h e (List.mem_cons_of_mem _ he)]; rfl
theorem TiesOk.good {knots : Int} {n : Nat} {xs : List D} (h : TiesOk knots n xs) : ∀ x ∈ xs, plain x = true ∧ lay x ∧ (py x).depth ≤ 2 := fun x hx => by
  obtain ⟨nm, is, rfl, _, hn, _⟩ := h.each x hx
  exact ⟨plain_tie nm is, lay_tie hn, dep_tie nm is⟩
def netT (knots : Int) (ls bs : List D) : D := .tup [.int knots, .tup ls, .tup bs]
theorem NetOk.good {knots : Int} {ls bs : List D} (h : NetOk knots ls bs) : plain (netT knots ls bs) = true ∧ lay (netT knots ls bs) ∧ (py (netT knots ls bs)).depth ≤ 4 := by
  have p1 : plain (.tup ls) = true := plains_of fun d hd => (h.lk.good d hd).1
  have p2 : plain (.tup bs) = true := plains_of fun d hd => (h.lb.good d hd).1
  have l1 : lay (.tup ls) := lay_tup fun d hd => (h.lk.good d hd).2.1
  have l2 : lay (.tup bs) := lay_tup fun d hd => (h.lb.good d hd).2.1
  have d1 : (py (.tup ls)).depth ≤ 3 := dep_le fun d hd => (h.lk.good d hd).2.2
  have d2 : (py (.tup bs)).depth ≤ 3 := dep_le fun d hd => (h.lb.good d hd).2.2
  have three : ∀ {P : D → Prop}, P (.int knots) → P (.tup ls) → P (.tup bs) → ∀ d ∈ [D.int knots, .tup ls, .tup bs], P d := fun a b c d hd => by
    simp at hd
    rcases hd with rfl | rfl | rfl
    · exact a
    · exact b
    · exact c
  exact ⟨plains_of (three rfl p1 p2), lay_tup (three (lay_int _) l1 l2), dep_le (three (by simp [py, PyData.depth]) d1 d2)⟩
/-- of two nets whether their values are equal; of anything that is none False -/
def S_Net_eq (c : Cs) : Spec := fun ds M Q => ∃ a y, ds = [.ref a, y] ∧ ((∃ b k ls bs k' ls' bs', y = .ref b ∧ M a = some (.ins c.Net (netF (.int k) (.tup ls) (.tup bs))) ∧ M b = some (.ins c.Net (netF (.int k') (.tup ls') (.tup bs'))) ∧ NetOk k ls bs ∧ NetOk k' ls' bs' ∧ ∀ e : Bool, (e = true ↔ netT k ls bs = netT k' ls' bs') → Q (.bl e) M) ∨
  (isaW c c.Net c.House y M = some false ∧ Q (.bl false) M))
abbrev N_Net_eq : List Str := ["self", "other"]
def ir_Net_eq (c : Cs) : Ss := (.cons (.ife (.not_ (.isa (.var 1) (.own "Net" c.Net) (isaW c c.Net c.House))) (.cons (.ret (.bl false)) .nil) .nil) (.cons (.ret (.cmp .Eq (.tup (.cons (.fld (.var 0) c.Net "knots") (.cons (.fld (.var 0) c.Net "links") (.cons (.fld (.var 0) c.Net "labels") .nil)))) (.tup (.cons (.fld (.var 1) c.Net "knots") (.cons (.fld (.var 1) c.Net "links") (.cons (.fld (.var 1) c.Net "labels") .nil)))))) .nil))
/-! ### is_net_of -/
def houseF (m r l p q : D) : List (Str × D) := [("many", m), ("rules", r), ("lists", l), ("pairs_by", p), ("marks_by", q)]
theorem look_rules {m r l p q : D} : (houseF m r l p q).lookup ("rules" : Str) = some r := by
  unfold houseF; rw [List.lookup_cons, show (("rules" : Str) == ("many" : Str)) = false by decide +kernel]
  show List.lookup _ _ = _
  rw [List.lookup_cons, show (("rules" : Str) == ("rules" : Str)) = true by decide +kernel]
theorem look_lists {m r l p q : D} : (houseF m r l p q).lookup ("lists" : Str) = some l := by
  unfold houseF; rw [List.lookup_cons, show (("lists" : Str) == ("many" : Str)) = false by decide +kernel]
  show List.lookup _ _ = _
  rw [List.lookup_cons, show (("lists" : Str) == ("rules" : Str)) = false by decide +kernel]
  show List.lookup _ _ = _
  rw [List.lookup_cons, show (("lists" : Str) == ("lists" : Str)) = true by decide +kernel]
/-- of a net whether its links' names are rules, its labels' lists; of anything that is none False -/
def S_is_net_of (c : Cs) : Spec := fun ds M Q => ∃ hh y, ds = [.ref hh, y] ∧ ((∃ t m p q k many rs ls ks bs, y = .ref t ∧ M hh = some (.ins c.House (houseF m (.tup rs) (.tup ls) p q)) ∧ M t = some (.ins c.Net (netF k (.tup ks) (.tup bs))) ∧ RulesOk many rs ∧ ListsOk many ls ∧ ks.length ≤ sizeLine ∧ bs.length ≤ sizeLine ∧
  (∀ x ∈ ks, ∃ nm is, x = tie nm is ∧ nameS nm = true) ∧ (∀ x ∈ bs, ∃ nm is, x = tie nm is ∧ nameS nm = true) ∧ ∀ M' (e : Bool), Keep M M' → (e = true ↔ (∀ x ∈ ks, nameD x ∈ rs.map nameD) ∧ ∀ x ∈ bs, nameD x ∈ ls.map nameD) → Q (.bl e) M') ∨
  (isaW c c.Net c.House y M = some false ∧ Q (.bl false) M))
end DL

set_option Elab.async false
set_option linter.all false
set_option maxRecDepth 100000
set_option maxHeartbeats 4000000
/-! W4: sets. -/
namespace DL
open PySem L2
/-- loops by an invariant, the place known -/
theorem forGo_pos {T : DIt} {g : Tg} {wb : WS} {D0 : DEnds} (J : List D → Ro → Mp → Prop) (keep : ∀ done ρ M, J done ρ M → T.keep M) : ∀ (todo done : List D) (ρ : Ro) (M : Mp), J done ρ M →
    (∀ x pre post, todo = pre ++ x :: post → ∀ ρ M (k : Ro → Mp → Prop), J (done ++ pre) ρ M → (∀ ρ' M', J (done ++ pre ++ [x]) ρ' M' → k ρ' M') → ∃ ρ1, g.asn x ρ = some ρ1 ∧ wb { D0 with nx := k, ct := k, bk := D0.nx } ρ1 M) →
    (∀ ρ M, J (done ++ todo) ρ M → D0.nx ρ M) → forGo T g wb D0 todo ρ M
  | [], done, ρ, M, h, _, hf => by
    unfold forGo
    exact ⟨keep _ _ _ h, hf ρ M (by rw [List.append_nil]; exact h)⟩
  | x :: xs, done, ρ, M, h, hs, hf => by
    unfold forGo
    refine ⟨keep _ _ _ h, hs x [] xs rfl ρ M (forGo T g wb D0 xs) (by rw [List.append_nil]; exact h) fun ρ' M' h' => ?_⟩
    rw [List.append_nil] at h'
    refine forGo_pos J keep xs (done ++ [x]) ρ' M' h' (fun y pre post e => ?_) fun ρ M h => hf ρ M (by rw [List.append_assoc] at h; exact h)
    have := hs y (x :: pre) post (by rw [e]; rfl)
    simpa [List.append_assoc] using this
/-! ### are_laid -/
def numsD (xs : List D) : Prop := ∀ x ∈ xs, ∃ i, x = .int i
/-! ### sets -/
theorem rng_nums (n : Int) : numsD (rngI 0 n) := fun x hx => by
  unfold rngI at hx
  obtain ⟨i, _, rfl⟩ := List.mem_map.mp hx
  exact ⟨_, rfl⟩
theorem rng_len (n : Int) : (rngI 0 n).length = n.toNat := by unfold rngI; simp
theorem mem_sort {x : D} {xs : List D} : x ∈ sortD xs ↔ x ∈ xs := by
  unfold sortD
  exact List.mem_mergeSort
theorem len_sort (xs : List D) : (sortD xs).length = xs.length := by
  unfold sortD
  exact List.length_mergeSort _
/-! ### ties -/
end DL

set_option Elab.async false
set_option linter.all false
set_option maxRecDepth 100000
set_option maxHeartbeats 4000000
/-! W5: the sets' net. -/
namespace DL
open PySem L2
def S_Net_K1_links_labels (c : Cs) : Spec := makeS c.Net (S_Net_init c) id
end DL

set_option Elab.async false
set_option linter.all false
set_option maxRecDepth 100000
set_option maxHeartbeats 4000000
/-! DLv: readings as equations (for simp). -/
namespace DL
open PySem L2
theorem add_ii {i j : Int} {M : Mp} {Q : DQ} : addD (.int i) (.int j) M Q = Q (.int (i + j)) M := rfl
theorem add_ss {a b : Str} {M : Mp} {Q : DQ} : addD (.str a) (.str b) M Q = (a.length + b.length ≤ sizeLine ∧ Q (.str (a ++ b)) M) := rfl
theorem add_tt {a b : List D} {M : Mp} {Q : DQ} : addD (.tup a) (.tup b) M Q = (a.length + b.length ≤ sizeLine ∧ Q (.tup (a ++ b)) M) := rfl
theorem mul_ii {i j : Int} {M : Mp} {Q : DQ} : mulD (.int i) (.int j) M Q = (CMul i j ∧ Q (.int (i * j)) M) := rfl
theorem int_ii {C : Int → Int → Prop} {f : Int → Int → Int} {i j : Int} {M : Mp} {Q : DQ} : intD C f (.int i) (.int j) M Q = (C i j ∧ Q (.int (f i j)) M) := propext ⟨by rintro ⟨a, b, e1, e2, h⟩; cases e1; cases e2; exact h, fun h => ⟨i, j, rfl, rfl, h⟩⟩
theorem abs_i {i : Int} {M : Mp} {Q : DQ} : absS [.int i] M Q = Q (.int (if i < 0 then -i else i)) M := propext ⟨by rintro ⟨a, e1, h⟩; cases e1; exact h, fun h => ⟨i, rfl, h⟩⟩
theorem int_i {i : Int} {M : Mp} {Q : DQ} : intS [.int i] M Q = Q (.int i) M := propext ⟨by rintro (⟨a, e1, h⟩ | ⟨a, e1, h⟩) <;> cases e1; exact h, fun h => .inl ⟨i, rfl, h⟩⟩
theorem int_b {i : Bool} {M : Mp} {Q : DQ} : intS [.bl i] M Q = Q (.int (if i then 1 else 0)) M := propext ⟨by rintro (⟨a, e1, h⟩ | ⟨a, e1, h⟩) <;> cases e1; exact h, fun h => .inr ⟨i, rfl, h⟩⟩
theorem eq_ii {neg : Bool} {i j : Int} {M : Mp} {Q : DQ} : eqD neg (.int i) (.int j) M Q = Q (.bl (if neg then !decide (i = j) else decide (i = j))) M := propext ⟨by
  rintro (⟨p, q, h1, h2, _, _, h⟩ | ⟨a, b, e1, _⟩)
  · cases h1
    cases h2
    rw [eqv_int] at h
    exact h
  · exact absurd e1 (by simp), eq_int⟩
theorem eqv_str (i j : Str) : PyData.eqv (.str i) (.str j) = decide (i = j) := by
  simp only [PyData.eqv]
  by_cases h : i = j
  · simp [h]
  · simp [h]
theorem eq_ss {neg : Bool} {i j : Str} {M : Mp} {Q : DQ} : eqD neg (.str i) (.str j) M Q = Q (.bl (if neg then !decide (i = j) else decide (i = j))) M := propext ⟨by
  rintro (⟨p, q, h1, h2, _, _, h⟩ | ⟨a, b, e1, e2, h⟩)
  · cases h1
    cases h2
    rw [eqv_str] at h
    exact h
  · cases e1; cases e2; exact h, fun h => .inr ⟨i, j, rfl, rfl, h⟩⟩
theorem lt_ii {i j : Int} {M : Mp} {Q : DQ} : ordD .lt (.int i) (.int j) M Q = Q (.bl (decide (i < j))) M := propext ⟨by
  rintro (⟨a, b, e1, e2, h⟩ | ⟨p, q, h1, h2, _, _, _, h⟩)
  · cases e1; cases e2; exact h
  · cases h1; cases h2
    simp only [Ord.of, PySem.W.dataLt_int] at h
    exact h, fun h => ord_int (o := .lt) h⟩
theorem le_ii {i j : Int} {M : Mp} {Q : DQ} : ordD .le (.int i) (.int j) M Q = Q (.bl (decide (i ≤ j))) M := propext ⟨by
  rintro (⟨a, b, e1, e2, h⟩ | ⟨p, q, h1, h2, _, _, _, h⟩)
  · cases e1; cases e2; exact h
  · cases h1; cases h2
    have e : (!decide (j < i)) = decide (i ≤ j) := by by_cases z : j < i <;> simp [z] <;> omega
    simp only [Ord.of, PySem.W.dataLt_int, e] at h
    exact h, fun h => ord_int (o := .le) h⟩
theorem gt_ii {i j : Int} {M : Mp} {Q : DQ} : ordD .gt (.int i) (.int j) M Q = Q (.bl (decide (j < i))) M := propext ⟨by
  rintro (⟨a, b, e1, e2, h⟩ | ⟨p, q, h1, h2, _, _, _, h⟩)
  · cases e1; cases e2; exact h
  · cases h1; cases h2
    simp only [Ord.of, PySem.W.dataLt_int] at h
    exact h, fun h => ord_int (o := .gt) h⟩
theorem ge_ii {i j : Int} {M : Mp} {Q : DQ} : ordD .ge (.int i) (.int j) M Q = Q (.bl (decide (j ≤ i))) M := propext ⟨by
  rintro (⟨a, b, e1, e2, h⟩ | ⟨p, q, h1, h2, _, _, _, h⟩)
  · cases e1; cases e2; exact h
  · cases h1; cases h2
    have e : (!decide (i < j)) = decide (j ≤ i) := by by_cases z : i < j <;> simp [z] <;> omega
    simp only [Ord.of, PySem.W.dataLt_int, e] at h
    exact h, fun h => ord_int (o := .ge) h⟩
theorem ix_tup {ds : List D} {n : Nat} {d : D} {M : Mp} {Q : DQ} (h : ds[n]? = some d) : ixD (.tup ds) (.int (n : Int)) M Q = Q d M := propext ⟨by
  rintro (⟨xs, i, x, e1, e2, e3, q⟩ | ⟨_, _, _, e1, _⟩ | ⟨_, _, _, _, e1, _⟩)
  · rcases e1 with e1 | ⟨a, e1, _⟩
    · cases e1; cases e2
      rw [atI_nat h] at e3
      cases e3
      exact q
    · cases e1
  · exact absurd e1 (by simp)
  · exact absurd e1 (by simp), ix_t n h⟩
theorem ix_0 {x : D} {ds : List D} {M : Mp} {Q : DQ} : ixD (.tup (x :: ds)) (.int 0) M Q = Q x M := ix_tup (n := 0) rfl
theorem ix_1 {x y : D} {ds : List D} {M : Mp} {Q : DQ} : ixD (.tup (x :: y :: ds)) (.int 1) M Q = Q y M := ix_tup (n := 1) rfl
theorem ix_2 {x y z : D} {ds : List D} {M : Mp} {Q : DQ} : ixD (.tup (x :: y :: z :: ds)) (.int 2) M Q = Q z M := ix_tup (n := 2) rfl
theorem len_tt {ds : List D} {M : Mp} {Q : DQ} : lenS [.tup ds] M Q = Q (.int ds.length) M := propext ⟨by
  rintro ⟨d, n, e1, e2, q⟩
  cases e1
  have e2 : n = ds.length := e2
  subst e2
  exact q, len_t⟩
theorem tup_n {p : Addr} {xs : List D} {M : Mp} {Q : DQ} : tupleS [.ref p] (up M p (.lst xs)) Q = Q (.tup xs) (up M p (.lst xs)) := propext ⟨by
  rintro ⟨d, ys, e1, e2, q⟩
  cases e1
  rcases e2 with e2 | ⟨a, e2, e3⟩
  · cases e2
  · cases e2
    rw [up_same] at e3
    cases e3
    exact q, tuple_new⟩
end DL

set_option Elab.async false
set_option linter.all false
set_option maxRecDepth 100000
set_option maxHeartbeats 4000000
/-! DLw: how long a repr is. -/
namespace DL
open PySem L2
theorem piled_le {n : Nat} : ∀ {ts : List Str}, (∀ t ∈ ts, t.length ≤ n) → piled ts ≤ ts.length * (n + 2)
  | [], _ => by simp [piled]
  | t :: ts, h => by
    have h1 := h t List.mem_cons_self
    have h2 := piled_le (ts := ts) fun x hx => h x (List.mem_cons_of_mem _ hx)
    have e : piled (t :: ts) = (t.length + 2) + piled ts := by simp [piled]
    rw [e, List.length_cons, Nat.add_mul]
    omega
theorem tupleText_le {n : Nat} {ts : List Str} (h : ∀ t ∈ ts, t.length ≤ n) : (tupleText ts).length ≤ ts.length * (n + 2) + 3 := by
  unfold tupleText
  rw [strLen_append, strLen_append]
  have e1 : (("(" : String) : Str).length = 1 := rfl
  have e2 : ((if ts.length == 1 then ",)" else ")" : String) : Str).length ≤ 2 := by
    split
    · exact Nat.le_refl 2
    · exact (by decide : (1 : Nat) ≤ 2)
  have e3 : (Str.join ", " ts).length ≤ ts.length * (n + 2) := by
    cases ts with
    | nil => simp [Str.join]; rfl
    | cons t ts =>
      have := join_length_add (t :: ts) (by simp)
      have := piled_le h
      omega
  rw [e1]
  omega
theorem shownAll_map : ∀ ds : List D, PyData.shownAll (pys ds) = ds.map fun d => (py d).shown
  | [] => by simp [pys, PyData.shownAll]
  | d :: ds => by simp [pys, PyData.shownAll, shownAll_map ds]
theorem shown_tup {n : Nat} {ds : List D} (h : ∀ d ∈ ds, (py d).shown.length ≤ n) : (py (.tup ds)).shown.length ≤ ds.length * (n + 2) + 3 := by
  have e : (py (.tup ds)).shown = tupleText (ds.map fun d => (py d).shown) := by simp only [py, PyData.shown, shownAll_map]
  rw [e]
  have := tupleText_le (n := n) (ts := ds.map fun d => (py d).shown) fun t ht => by
    obtain ⟨d, hd, rfl⟩ := List.mem_map.mp ht
    exact h d hd
  rwa [List.length_map] at this
theorem shown_int {i : Int} {k : Nat} (hk : 0 < k) (h : i.natAbs < 10 ^ k) : (py (.int i)).shown.length ≤ k + 1 := by
  have e : (py (.int i)).shown = Str.ofString (toString i) := by simp only [py, PyData.shown]
  rw [e]
  have := int_text_length_le10 hk h
  rw [ofString_length]
  exact this
theorem shown_name {x : Str} (h : nameS x = true) : (py (.str x)).shown.length ≤ 62 := by
  have e : (py (.str x)).shown = reprText x := by simp only [py, PyData.shown]
  rw [e]
  unfold nameS at h
  rw [Bool.and_eq_true, Bool.and_eq_true] at h
  obtain ⟨⟨_, h2⟩, h3⟩ := h
  have h2 := of_decide_eq_true h2
  refine Nat.le_trans (StrLaws.reprText_len x fun c hc => ?_) (by omega)
  have := List.all_eq_true.mp h3 c hc
  unfold isLetter at this
  rw [Bool.and_eq_true] at this
  have := of_decide_eq_true this.2
  exact Nat.lt_of_le_of_lt this (by decide)
theorem showable_all : ∀ {ds : List D}, (∀ d ∈ ds, (py d).showable = true) → PyData.showableAll (pys ds) = true
  | [], _ => by simp [pys, PyData.showableAll]
  | d :: ds, h => by
    simp only [pys, PyData.showableAll, Bool.and_eq_true]
    exact ⟨h d List.mem_cons_self, showable_all fun x hx => h x (List.mem_cons_of_mem _ hx)⟩
theorem showable_tup {ds : List D} (h : ∀ d ∈ ds, (py d).showable = true) : (py (.tup ds)).showable = true := by
  simp only [py, PyData.showable]
  exact showable_all h
theorem showable_str (x : Str) : (py (.str x)).showable = true := by simp only [py, PyData.showable]
theorem showable_int {i : Int} (h : i.natAbs < 2 ^ 64) : (py (.int i)).showable = true := by
  simp only [py, PyData.showable, decide_eq_true_eq]
  rcases Nat.eq_zero_or_pos i.natAbs with e | e
  · rw [e]; decide
  · have := (Nat.log2_lt (by omega)).mpr h
    omega
end DL

set_option Elab.async false
set_option linter.all false
set_option maxRecDepth 100000
set_option maxHeartbeats 4000000
/-! W6: the law's draws. -/
namespace DL
open PySem L2
def S_l_take (_ : Cs) : Spec := fun ds M Q => ∃ p upto, ds = [.ref p, .int upto] ∧ M p = some .pot ∧ 0 < upto ∧ upto ≤ 1000000 ∧ ∀ r, 0 ≤ r → r < upto → Q (.int r) M
def S_l_of (_ : Cs) : Spec := fun ds M Q => ∃ p q xs, ds = [.ref p, .ref q] ∧ M p = some .pot ∧ M q = some (.lst xs) ∧ xs ≠ [] ∧ xs.length ≤ 1000000 ∧ ∀ x ∈ xs, Q x M
abbrev N_l_of : List Str := ["_law_pot_here", "_law_some"]
def ir_l_of (c : Cs) : Ss := (.cons (.ret (.idx (.var 1) (.call "_law_take" (S_l_take c) (.cons (.var 0) (.cons (.bcall .len (.cons (.var 1) .nil)) .nil))))) .nil)
theorem wp_l_of (c : Cs) {p q : Addr} {xs : List D} {M : Mp} {Q : DQ} (hp : M p = some .pot) (hq : M q = some (.lst xs)) (hx : xs ≠ []) (hz : xs.length ≤ 1000000) (h : ∀ x ∈ xs, Q x M) : (ir_l_of c).wp (bodyEnds Q) [some (.ref p), some (.ref q)] M := by
  simp only [wW, ir_l_of]
  refine len_l hq ⟨p, _, rfl, hp, ?_, by omega, fun r r0 r1 => ?_⟩
  · have : 0 < xs.length := List.length_pos_iff.mpr hx
    omega
  · obtain ⟨n, rfl⟩ := Int.eq_ofNat_of_zero_le r0
    have hn : n < xs.length := by omega
    exact ix_l n hq (List.getElem?_eq_getElem hn) (h _ (List.getElem_mem hn))
/-! ### all pairs -/
def prD (i j : Nat) : D := .tup [.int i, .int j]
def allPr (s : Nat) : List D := (List.range (s * s)).map fun a => prD (a / s) (a % s)
def S_l_all_pairs (_ : Cs) : Spec := fun ds M Q => ∃ s : Nat, ds = [.int s] ∧ 0 < s ∧ s ≤ 4 ∧ ∀ M' p, Keep M M' → M' p = some (.lst (allPr s)) → Q (.ref p) M'
abbrev N_l_all_pairs : List Str := ["_law_size", "_law_at"]
def ir_l_all_pairs (c : Cs) : Ss := (.cons (.ret (.lc [("_law_at", 1)] (.name 1) (.r1 (.bin .Mult (.var 0) (.var 0))) .none (.tup (.cons (.bin .FloorDiv (.var 1) (.var 0)) (.cons (.bin .Mod (.var 1) (.var 0)) .nil))))) .nil)
theorem wp_l_all_pairs (c : Cs) {s : Nat} {M : Mp} {Q : DQ} (h0 : 0 < s) (h4 : s ≤ 4) (h : ∀ M' p, Keep M M' → M' p = some (.lst (allPr s)) → Q (.ref p) M') : (ir_l_all_pairs c).wp (bodyEnds Q) [some (.int s), none] M := by
  have hs : s * s ≤ 16 := Nat.mul_le_mul h4 h4
  simp only [wW, ir_l_all_pairs]
  have hs' : (s : Int) * (s : Int) = ((s * s : Nat) : Int) := (Int.natCast_mul s s).symm
  refine ⟨.inl ⟨by omega, by omega⟩, _, rfl, by unfold small62; rw [hs']; omega, by rw [rng_len, hs', sizeLine_eq]; omega, ?_⟩
  refine lcGo_map (T := ⟨rngI 0 ((s : Int) * s), fun _ => True⟩) (M0 := M) (fun x => match x with | .int a => some (.tup [.int (a / s), .int (a % s)]) | _ => none) (fun _ _ => trivial) _ M (.refl _) (fun x hx acc M1 k k1 hk => ?_) fun M1 k1 p hp => ?_
  · obtain ⟨a, rfl⟩ := rng_nums _ x hx
    refine ⟨_, rfl, yes_if ?_⟩
    simp only [wW]
    refine ⟨a, s, rfl, rfl, ⟨by omega, by omega⟩, a, s, rfl, rfl, by omega, by simp [sizeLine_eq], ?_⟩
    exact hk M1 k1
  · refine h _ p (k1.trans (.new hp)) ?_
    rw [up_same]
    congr 2
    unfold rngI allPr
    rw [hs', Int.sub_zero, Int.toNat_natCast, List.filterMap_map, ← List.filterMap_eq_map']
    congr 1
    funext a
    simp [prD]
/-! ### a draw -/
abbrev N_l_take : List Str := ["_law_pot_here", "_law_upto", "_law_digit"]
def ir_l_take (c : Cs) : Ss := (.cons (.ife (.cmp .Gt (.idx (.var 0) (.int 0)) (.int 0)) (.cons (.asg (.name 2) (.bin .Mod (.idx (.var 0) (.int 0)) (.var 1))) (.cons (.setI (.var 0) (.int 0) (.bin .FloorDiv (.idx (.var 0) (.int 0)) (.var 1))) (.cons (.ret (.var 2)) .nil))) .nil) (.cons (.setI (.var 0) (.int 1) (.bin .Mod (.bin .Add (.bin .Mult (.idx (.var 0) (.int 1)) (.int 1181783497276652981)) (.int 12345678910987)) (.int 2305843009213693951))) (.cons (.ret (.bin .Mod (.bin .FloorDiv (.bin .Mod (.bin .Mult (.bin .FloorDiv (.idx (.var 0) (.int 1)) (.int 65537)) (.bin .Add (.bin .Mod (.idx (.var 0) (.int 1)) (.int 65537)) (.int 3))) (.int 2305843009213693921)) (.int 97)) (.var 1))) .nil)))
theorem wp_l_take (c : Cs) {p : Addr} {upto g m : Int} {M : Mp} {Q : DQ} (h0 : 0 < upto) (h1 : upto ≤ 1000000) (ok : PotOk g m) (hp : M p = some (.lst [.int g, .int m]))
    (h : ∀ r g' m', 0 ≤ r → r < upto → PotOk g' m' → Q (.int r) (up M p (.lst [.int g', .int m']))) : (ir_l_take c).wp (bodyEnds Q) [some (.ref p), some (.int upto), none] M := by
  obtain ⟨g0, g1, m0, m1⟩ := ok
  simp only [wW, ir_l_take]
  refine ix_l 0 hp rfl (ord_int ⟨_, rfl, ?_⟩)
  by_cases hg : 0 < g
  · have e : decide ((0 : Int) < g) = true := decide_eq_true hg
    simp only [e, if_true]
    refine ix_l 0 hp rfl ⟨g, upto, rfl, rfl, h0, ?_⟩
    simp only [wW]
    refine ix_l 0 hp rfl ⟨g, upto, rfl, rfl, ⟨h0, by omega⟩, ?_⟩
    simp only [wW]
    refine ⟨_, hp, 0, rfl, ?_⟩
    refine h _ _ _ (Int.emod_nonneg _ (by omega)) (Int.emod_lt_of_pos _ h0) ⟨Int.ediv_nonneg g0 (by omega), Int.lt_of_le_of_lt (Int.ediv_le_self _ g0) g1, m0, m1⟩
  · have e : decide ((0 : Int) < g) = false := decide_eq_false hg
    simp only [e, Bool.false_eq_true, if_false]
    have hM : (0 : Int) < 2305843009213693951 := by decide
    have b0 := Int.emod_nonneg (m * 1181783497276652981 + 12345678910987) (b := 2305843009213693951) (by decide)
    have b1 := Int.emod_lt_of_pos (m * 1181783497276652981 + 12345678910987) hM
    refine ix_l 1 hp rfl ⟨.inr ⟨by decide, by decide⟩, _, _, rfl, rfl, hM, _, hp, 1, rfl, ?_⟩
    show ixD (D.ref p) (D.int 1) (up M p (MO.lst ([D.int g, D.int m].set 1 (D.int ((m * 1181783497276652981 + 12345678910987) % 2305843009213693951))))) _
    generalize (m * 1181783497276652981 + 12345678910987) % 2305843009213693951 = m' at b0 b1 ⊢
    have hp' : up M p (.lst ([D.int g, D.int m].set 1 (.int m'))) p = some (.lst [.int g, .int m']) := up_same
    have c0 := Int.emod_nonneg m' (b := 65537) (by decide)
    have c1 := Int.emod_lt_of_pos m' (show (0 : Int) < 65537 by decide)
    refine ix_l 1 hp' rfl ⟨m', 65537, rfl, rfl, ⟨by decide, by decide⟩, ix_l 1 hp' rfl ⟨m', 65537, rfl, rfl, show (0 : Int) < 65537 by decide, ?_⟩⟩
    refine ⟨.inr ⟨show -(2 ^ 64) < m' % 65537 + 3 by omega, show m' % 65537 + 3 < 2 ^ 64 by omega⟩, _, _, rfl, rfl, show (0 : Int) < 2305843009213693921 by decide, _, _, rfl, rfl, ⟨by decide, by decide⟩, _, _, rfl, rfl, h0, ?_⟩
    exact h _ _ _ (Int.emod_nonneg _ (by omega)) (Int.emod_lt_of_pos _ h0) ⟨g0, g1, b0, b1⟩
end DL

set_option Elab.async false
set_option linter.all false
set_option maxRecDepth 100000
set_option maxHeartbeats 4000000
/-! W7: the law's pairs. -/
namespace DL
open PySem L2
theorem pair_ris : ∀ {xs : List D}, (xs.Pairwise fun x y => ltP x y = true) → risB xs = true
  | [], _ => rfl
  | [x], _ => rfl
  | x :: y :: r, h => by
    unfold risB
    rw [Bool.and_eq_true]
    rw [List.pairwise_cons] at h
    exact ⟨h.1 y List.mem_cons_self, pair_ris h.2⟩
theorem lt_pair (i j i' j' : Int) : ltP (.tup [.int i, .int j]) (.tup [.int i', .int j']) = decide (i < i' ∨ (i = i' ∧ j < j')) := by
  unfold ltP
  simp only [py, pys]
  exact PySem.W.dataLt_ii i j i' j'
structure PrsOk (s : Nat) (prs : List D) : Prop where
  each : ∀ x ∈ prs, isPr x 0 ((s : Int) - 1) = true
  rise : risB prs = true
  len : prs.length ≤ 16
theorem all_ris {s : Nat} (h : s ≤ 4) : (allPr s).Pairwise fun x y => ltP x y = true := by
  unfold allPr
  rw [List.pairwise_map]
  refine List.Pairwise.imp_of_mem ?_ (List.pairwise_lt_range (n := s * s))
  intro a b ha hb hab
  show ltP (prD _ _) (prD _ _) = true
  unfold prD
  rw [lt_pair, decide_eq_true_eq]
  have h1 : a / s ≤ b / s := Nat.div_le_div_right (Nat.le_of_lt hab)
  rcases Nat.lt_or_ge (a / s) (b / s) with h2 | h2
  · exact .inl (by omega)
  · refine .inr ⟨by omega, ?_⟩
    have e : a / s = b / s := Nat.le_antisymm h1 h2
    have ea := Nat.div_add_mod a s
    have eb := Nat.div_add_mod b s
    rw [e] at ea
    omega
theorem all_each {s : Nat} (h0 : 0 < s) : ∀ x ∈ allPr s, isPr x 0 ((s : Int) - 1) = true := fun x hx => by
  unfold allPr at hx
  obtain ⟨a, ha, rfl⟩ := List.mem_map.mp hx
  rw [List.mem_range] at ha
  have h1 : a / s < s := Nat.div_lt_of_lt_mul ha
  have h2 : a % s < s := Nat.mod_lt _ h0
  generalize a / s = u at h1
  generalize a % s = v at h2
  have e : ∀ z : Nat, z < s → isWh (.int (z : Int)) 0 ((s : Int) - 1) = true := fun z hz => by
    unfold isWh
    rw [Bool.and_eq_true]
    exact ⟨decide_eq_true (by omega), decide_eq_true (by omega)⟩
  show (isWh _ _ _ && isWh _ _ _) = true
  rw [e u h1, e v h2]
  rfl
theorem all_len (s : Nat) : (allPr s).length = s * s := by unfold allPr; simp
theorem PrsOk.sub {s : Nat} {prs : List D} (h0 : 0 < s) (h4 : s ≤ 4) (h : prs.Sublist (allPr s)) : PrsOk s prs := by
  refine ⟨fun x hx => all_each h0 x (h.subset hx), pair_ris ((all_ris h4).sublist h), ?_⟩
  have := h.length_le
  rw [all_len] at this
  exact Nat.le_trans this (Nat.mul_le_mul h4 h4)
def S_l_pairs (_ : Cs) : Spec := fun ds M Q => ∃ (p : Addr) (s : Nat), ds = [.ref p, .int s] ∧ M p = some .pot ∧ 0 < s ∧ s ≤ 4 ∧ ∀ M' prs, Keep M M' → PrsOk s prs → Q (.tup prs) M'
/-- a comprehension that keeps some -/
theorem lcGo_sub {T : DIt} {g : Tg} {wt : WT} {we : WE} {ρ : Ro} {fin : List D → Mp → Prop} {M0 : Mp} (keep : ∀ M, Keep M0 M → T.keep M) (todo : List D) (M : Mp) (hM : Keep M0 M)
    (hs : ∀ x ∈ todo, ∀ acc M (k : List D → Mp → Prop), Keep M0 M → (∀ M', Keep M0 M' → k (acc ++ [x]) M') → (∀ M', Keep M0 M' → k acc M') → ∃ ρ1, g.asn x ρ = some ρ1 ∧ wt ρ1 M fun b M1 => if b = true then we ρ1 M1 fun d M2 => k (acc ++ [d]) M2 else k acc M1)
    (hf : ∀ acc M, Keep M0 M → acc.Sublist todo → fin acc M) : lcGo T g wt we ρ fin todo [] M := by
  refine lcGo_inv (fun done acc M => acc.Sublist done ∧ Keep M0 M) (fun _ _ M h => keep M h.2) todo [] [] M ⟨.refl _, hM⟩ (fun x hx done acc M k h hk => ?_) (fun acc M h => hf acc M h.2 h.1)
  exact hs x hx acc M k h.2 (fun M' hM' => hk _ M' ⟨h.1.append (.refl _), hM'⟩) fun M' hM' => hk _ M' ⟨h.1.trans (List.sublist_append_left _ _), hM'⟩
def fstD : D → D
  | .tup (x :: _) => x
  | _ => .non
theorem rng_pair (n : Int) : (rngI 0 n).Pairwise fun x y => ∃ i j : Int, x = .int i ∧ y = .int j ∧ i < j := by
  unfold rngI
  rw [List.pairwise_map]
  exact (List.pairwise_lt_range (n := (n - 0).toNat)).imp fun {a b} h => ⟨_, _, rfl, rfl, by omega⟩
theorem rng_mem {n : Int} {x : D} (h : x ∈ rngI 0 n) : ∃ i : Int, x = .int i ∧ 0 ≤ i ∧ i < n := by
  unfold rngI at h
  obtain ⟨a, ha, rfl⟩ := List.mem_map.mp h
  rw [List.mem_range] at ha
  exact ⟨_, rfl, by omega, by omega⟩
theorem wh_of {i n : Int} (h0 : 0 ≤ i) (h1 : i < n) : isWh (.int i) 0 (n - 1) = true := by
  unfold isWh
  rw [Bool.and_eq_true]
  exact ⟨decide_eq_true h0, decide_eq_true (by omega)⟩
theorem PrsOk.by_first {s : Nat} {acc : List D} (h4 : s ≤ 4) (em : acc.map fstD = rngI 0 s) (ha : ∀ d ∈ acc, ∃ i r : Int, d = .tup [.int i, .int r] ∧ 0 ≤ r ∧ r < s) : PrsOk s acc := by
  refine ⟨fun x hx => ?_, pair_ris ?_, ?_⟩
  · obtain ⟨i, r, rfl, r0, r1⟩ := ha x hx
    obtain ⟨i', e, i0, i1⟩ := rng_mem (n := s) (x := .int i) (by rw [← em]; exact List.mem_map.mpr ⟨_, hx, rfl⟩)
    cases e
    show (isWh _ _ _ && isWh _ _ _) = true
    rw [wh_of i0 i1, wh_of r0 r1]
    rfl
  · have hp := rng_pair s
    rw [← em, List.pairwise_map] at hp
    refine hp.imp_of_mem fun {a b} h1 h2 hab => ?_
    obtain ⟨i, r, rfl, _⟩ := ha a h1
    obtain ⟨j, r', rfl, _⟩ := ha b h2
    obtain ⟨i', j', e1, e2, hlt⟩ := hab
    cases e1
    cases e2
    rw [lt_pair, decide_eq_true_eq]
    exact .inl hlt
  · have := congrArg List.length em
    rw [List.length_map, rng_len] at this
    omega
abbrev N_l_pairs : List Str := ["_law_pot_here", "_law_size", "_law_share", "_law_way", "_law_every", "_law_pair", "_law_mark"]
def ir_l_pairs (c : Cs) : Ss := (.cons (.asg (.tup (.cons (.name 3) (.cons (.name 4) .nil))) (.tup (.cons (.call "_law_take" (S_l_take c) (.cons (.var 0) (.cons (.int 8) .nil))) (.cons (.call "_law_all_pairs" (S_l_all_pairs c) (.cons (.var 1) .nil)) .nil)))) (.cons (.ife (.cmp .Eq (.var 3) (.int 0)) (.cons (.ret (.bcall .tuple (.cons (.lc [("_law_pair", 5)] (.name 5) (.seq (.var 4)) (.some (.cmp .LtE (.idx (.var 5) (.int 0)) (.idx (.var 5) (.int 1)))) (.var 5)) .nil))) .nil) .nil) (.cons (.ife (.cmp .Eq (.var 3) (.int 1)) (.cons (.ret (.bcall .tuple (.cons (.lc [("_law_pair", 5)] (.name 5) (.seq (.var 4)) (.some (.cmp .Eq (.bin .Add (.idx (.var 5) (.int 0)) (.int 1)) (.idx (.var 5) (.int 1)))) (.var 5)) .nil))) .nil) .nil) (.cons (.ife (.cmp .Eq (.var 3) (.int 2)) (.cons (.ret (.bcall .tuple (.cons (.lc [("_law_pair", 5)] (.name 5) (.seq (.var 4)) (.some (.cmp .NotEq (.idx (.var 5) (.int 0)) (.idx (.var 5) (.int 1)))) (.var 5)) .nil))) .nil) .nil) (.cons (.ife (.cmp .Eq (.var 3) (.int 3)) (.cons (.ret (.bcall .tuple (.cons (.lc [("_law_mark", 6)] (.name 6) (.r1 (.var 1)) .none (.tup (.cons (.var 6) (.cons (.call "_law_take" (S_l_take c) (.cons (.var 0) (.cons (.var 1) .nil))) .nil)))) .nil))) .nil) .nil) (.cons (.asg (.name 2) (.bin .Add (.int 2) (.call "_law_take" (S_l_take c) (.cons (.var 0) (.cons (.int 3) .nil))))) (.cons (.ret (.bcall .tuple (.cons (.lc [("_law_pair", 5)] (.name 5) (.seq (.var 4)) (.some (.bop .Or (.cons (.cmp .Eq (.call "_law_take" (S_l_take c) (.cons (.var 0) (.cons (.var 2) .nil))) (.int 0)) (.cons (.bop .And (.cons (.cmp .Eq (.var 3) (.int 4)) (.cons (.cmp .Eq (.idx (.var 5) (.int 0)) (.idx (.var 5) (.int 1))) .nil))) .nil)))) (.var 5)) .nil))) .nil)))))))
theorem wp_l_pairs (c : Cs) {p : Addr} {s : Nat} {M : Mp} {Q : DQ} (hp : M p = some .pot) (h0 : 0 < s) (h4 : s ≤ 4) (h : ∀ M' prs, Keep M M' → PrsOk s prs → Q (.tup prs) M') : (ir_l_pairs c).wp (bodyEnds Q) [some (.ref p), some (.int s), none, none, none, none, none] M := by
  have zA : (allPr s).length ≤ sizeLine := by rw [all_len, sizeLine_eq]; have : s * s ≤ 16 := Nat.mul_le_mul h4 h4; omega
  simp only [wW, ir_l_pairs]
  refine ⟨p, 8, rfl, hp, by decide, by decide, fun way w0 w1 => ?_⟩
  refine ⟨s, rfl, h0, h4, fun M1 e k1 he => ?_⟩
  have tupF : ∀ acc M2, Keep M1 M2 → acc.Sublist (allPr s) → ∀ q, M2 q = none → tupleS [.ref q] (up M2 q (.lst acc)) Q := fun acc M2 k2 hs q hq =>
    ⟨_, acc, rfl, .inr ⟨q, rfl, up_same⟩, h _ acc (k1.trans (k2.trans (.new hq))) (.sub h0 h4 hs)⟩
  have sub : ∀ (wt : WT) (v : Option D) (M2 : Mp), Keep M1 M2 → (∀ i j : Nat, prD i j ∈ allPr s → ∀ M3 (k : Bool → Mp → Prop), Keep M1 M3 → (∀ b M4, Keep M1 M4 → k b M4) → wt [some (.ref p), some (.int s), v, some (.int way), some (.ref e), some (prD i j), none] M3 k) →
      ∃ T, seqT M2 (.ref e) T ∧ T.items.length ≤ sizeLine ∧ lcGo T (Tg.name 5) wt (wVar 5) [some (.ref p), some (.int s), v, some (.int way), some (.ref e), none, none] (fun acc M2 => ∀ q, M2 q = none → tupleS [D.ref q] (up M2 q (MO.lst acc)) Q) T.items [] M2 := by
    intro wt v M2 k2 hw
    refine ⟨_, seqT_l (k2 _ _ he), zA, ?_⟩
    refine lcGo_sub (T := ⟨allPr s, fun M => M e = some (.lst (allPr s))⟩) (M0 := M1) (fun M3 k3 => k3 _ _ he) (allPr s) M2 k2 (fun x hx acc M3 k k3 y1 y2 => ?_) fun acc M3 k3 hs => tupF acc M3 k3 hs
    obtain ⟨a, ha, rfl⟩ := List.mem_map.mp hx
    refine ⟨_, rfl, ?_⟩
    refine hw _ _ hx M3 _ k3 fun b M4 k4 => ?_
    cases b with
    | true =>
      rw [if_pos rfl]
      exact ⟨_, rfl, y1 M4 k4⟩
    | false =>
      rw [if_neg Bool.false_ne_true]
      exact y2 M4 k4
  have ix0 : ∀ {i j : Nat} {M : Mp} {Q : DQ}, Q (.int i) M → ixD (prD i j) (.int 0) M Q := fun q => ix_t 0 rfl q
  have ix1 : ∀ {i j : Nat} {M : Mp} {Q : DQ}, Q (.int j) M → ixD (prD i j) (.int 1) M Q := fun q => ix_t 1 rfl q
  refine ⟨by simp [sizeLine_eq], eq_int ⟨_, rfl, ?_⟩⟩
  by_cases c0 : way = 0
  · subst c0
    simp only [decide_true, if_true, Bool.false_eq_true, if_false]
    refine sub _ none M1 (.refl _) fun i j hij M3 k k3 hk => ?_
    simp only [wW]
    exact ix0 (ix1 (ord_int ⟨_, rfl, hk _ M3 k3⟩))
  simp only [c0, decide_false, Bool.false_eq_true, if_false]
  refine eq_int ⟨_, rfl, ?_⟩
  by_cases c1 : way = 1
  · subst c1
    simp only [decide_true, if_true, Bool.false_eq_true, if_false]
    refine sub _ none M1 (.refl _) fun i j hij M3 k k3 hk => ?_
    simp only [wW]
    refine ix0 ?_
    simp only [addD]
    exact ix1 (eq_int ⟨_, rfl, hk _ M3 k3⟩)
  simp only [c1, decide_false, Bool.false_eq_true, if_false]
  refine eq_int ⟨_, rfl, ?_⟩
  by_cases c2 : way = 2
  · subst c2
    simp only [decide_true, if_true, Bool.false_eq_true, if_false]
    refine sub _ none M1 (.refl _) fun i j hij M3 k k3 hk => ?_
    simp only [wW]
    exact ix0 (ix1 (eq_int ⟨_, rfl, hk _ M3 k3⟩))
  simp only [c2, decide_false, Bool.false_eq_true, if_false]
  refine eq_int ⟨_, rfl, ?_⟩
  by_cases c3 : way = 3
  · subst c3
    simp only [decide_true, if_true, Bool.false_eq_true, if_false]
    refine ⟨by unfold small62; omega, by rw [rng_len, sizeLine_eq]; omega, ?_⟩
    refine lcGo_inv (T := ⟨rngI 0 s, fun _ => True⟩) (fun done acc M2 => Keep M1 M2 ∧ acc.map fstD = done ∧ ∀ d ∈ acc, ∃ i r : Int, d = .tup [.int i, .int r] ∧ 0 ≤ r ∧ r < s) (fun _ _ _ _ => trivial) _ [] [] M1 ⟨.refl _, rfl, fun d hd => by cases hd⟩ (fun x hx done acc M2 k hJ hk => ?_) fun acc M2 hJ q hq => ?_
    · obtain ⟨k2, em, ha⟩ := hJ
      obtain ⟨i, rfl⟩ := rng_nums _ x hx
      refine ⟨_, rfl, yes_if ?_⟩
      simp only [wW]
      refine ⟨p, s, rfl, k2 _ _ (k1 _ _ hp), by omega, by omega, fun r r0 r1 => ?_⟩
      refine ⟨by simp [sizeLine_eq], hk _ _ ⟨k2, ?_, fun d hd => ?_⟩⟩
      · rw [List.map_append, em]; rfl
      · rcases List.mem_append.mp hd with hd | hd
        · exact ha d hd
        · obtain rfl := List.mem_singleton.mp hd
          exact ⟨i, r, rfl, r0, r1⟩
    · obtain ⟨k2, em, ha⟩ := hJ
      rw [List.nil_append] at em
      refine ⟨_, acc, rfl, .inr ⟨q, rfl, up_same⟩, h _ acc (k1.trans (k2.trans (.new hq))) (.by_first h4 em ha)⟩
  simp only [c3, decide_false, Bool.false_eq_true, if_false]
  refine ⟨p, 3, rfl, k1 _ _ hp, by decide, by decide, fun r r0 r1 => ?_⟩
  show ∃ T, seqT M1 (.ref e) T ∧ _
  refine sub _ (some (.int (2 + r))) M1 (.refl _) fun i j hij M3 k k3 hk => ?_
  simp only [wW]
  refine ⟨p, 2 + r, rfl, k3 _ _ (k1 _ _ hp), by omega, by omega, fun u u0 u1 => eq_int ⟨_, rfl, ?_⟩⟩
  by_cases hu : u = 0
  · simp only [hu, decide_true, Bool.false_eq_true, if_false, if_true]
    exact hk _ M3 k3
  · simp only [hu, decide_false, Bool.false_eq_true, if_false]
    refine eq_int ⟨_, rfl, ?_⟩
    by_cases hw : way = 4
    · simp only [hw, decide_true, Bool.false_eq_true, if_false, if_true]
      exact ix0 (ix1 (eq_int ⟨_, rfl, hk _ M3 k3⟩))
    · simp only [hw, decide_false, Bool.false_eq_true, if_false]
      exact hk _ M3 k3
end DL

set_option Elab.async false
set_option linter.all false
set_option maxRecDepth 100000
set_option maxHeartbeats 4000000
/-! W8: a pot, names. -/
local macro_rules | `(tactic| simp only [wX]) => `(tactic| simp only [DL.Ss.wp, DL.S.wp, DL.E.wp, DL.E.wpT, DL.Es.wp, DL.Es.wpV, DL.Es.wpT, DL.Oe.wpO, DL.Oe.wpT, DL.Wk.wp, DL.wSeq, DL.wRet, DL.wRetN, DL.wNext, DL.wNever, DL.wDrop, DL.wAsg, DL.wIfS, DL.wFor, DL.wPar, DL.wPar3, DL.wParJ, DL.wParK, DL.wUpdX, DL.wFldS, DL.wSetI, DL.wSetK, DL.wDnew, DL.wDlit, DL.wMeth, DL.wBm, DL.wIxX, DL.wZipL, DL.wZipLT, DL.wItemsL, DL.wAndV, DL.wOrV, DL.wNotV, DL.wAnd, DL.wOr, DL.wNot, DL.wIfB, DL.wTest, DL.wTru, DL.wIf, DL.w1, DL.w2, DL.w3, DL.wVar, DL.wC, DL.wNil, DL.wCons, DL.wTup, DL.wLst, DL.wCall, DL.wCallK, DL.wO0, DL.wO1, DL.wSl, DL.wStep, DL.wLc, DL.wISeq, DL.wIR1, DL.wIR2, DL.wIZip, DL.wIStr, DL.wIEn, DL.wDc, DL.DcK.emp, DL.Wk.wp, DL.binF, DL.cmpF, DL.isaD, DL.negD, DL.Blt.spec, DL.Bm.spec, DL.Bm.ty, List.getElem?_cons_zero, List.getElem?_cons_succ, Option.some.injEq, exists_eq_left', exists_eq_left, exists_and_left, List.set_cons_zero, List.set_cons_succ, DL.asn_name, DL.asn_tup, DL.asns_nil, DL.asns_name, DL.wipeD, DL.tru_bl, DL.tru_int, DL.tru_non, DL.tru_tup, DL.bodyEnds, List.map_cons, List.map_nil, ↓reduceIte, Bool.false_eq_true, and_true, true_and, DL.D.str.injEq, DL.D.int.injEq, DL.D.ref.injEq, DL.D.tup.injEq, DL.D.bl.injEq, DL.add_ii, DL.add_ss, DL.add_tt, DL.mul_ii, DL.int_ii, DL.abs_i, DL.int_i, DL.int_b, DL.eq_ii, DL.eq_ss, DL.lt_ii, DL.le_ii, DL.gt_ii, DL.ge_ii, DL.ix_0, DL.ix_1, DL.ix_2, DL.len_tt, DL.tup_n]) | `(tactic| simp only [wX, $ts,*]) => `(tactic| simp only [DL.Ss.wp, DL.S.wp, DL.E.wp, DL.E.wpT, DL.Es.wp, DL.Es.wpV, DL.Es.wpT, DL.Oe.wpO, DL.Oe.wpT, DL.Wk.wp, DL.wSeq, DL.wRet, DL.wRetN, DL.wNext, DL.wNever, DL.wDrop, DL.wAsg, DL.wIfS, DL.wFor, DL.wPar, DL.wPar3, DL.wParJ, DL.wParK, DL.wUpdX, DL.wFldS, DL.wSetI, DL.wSetK, DL.wDnew, DL.wDlit, DL.wMeth, DL.wBm, DL.wIxX, DL.wZipL, DL.wZipLT, DL.wItemsL, DL.wAndV, DL.wOrV, DL.wNotV, DL.wAnd, DL.wOr, DL.wNot, DL.wIfB, DL.wTest, DL.wTru, DL.wIf, DL.w1, DL.w2, DL.w3, DL.wVar, DL.wC, DL.wNil, DL.wCons, DL.wTup, DL.wLst, DL.wCall, DL.wCallK, DL.wO0, DL.wO1, DL.wSl, DL.wStep, DL.wLc, DL.wISeq, DL.wIR1, DL.wIR2, DL.wIZip, DL.wIStr, DL.wIEn, DL.wDc, DL.DcK.emp, DL.Wk.wp, DL.binF, DL.cmpF, DL.isaD, DL.negD, DL.Blt.spec, DL.Bm.spec, DL.Bm.ty, List.getElem?_cons_zero, List.getElem?_cons_succ, Option.some.injEq, exists_eq_left', exists_eq_left, exists_and_left, List.set_cons_zero, List.set_cons_succ, DL.asn_name, DL.asn_tup, DL.asns_nil, DL.asns_name, DL.wipeD, DL.tru_bl, DL.tru_int, DL.tru_non, DL.tru_tup, DL.bodyEnds, List.map_cons, List.map_nil, ↓reduceIte, Bool.false_eq_true, and_true, true_and, DL.D.str.injEq, DL.D.int.injEq, DL.D.ref.injEq, DL.D.tup.injEq, DL.D.bl.injEq, DL.add_ii, DL.add_ss, DL.add_tt, DL.mul_ii, DL.int_ii, DL.abs_i, DL.int_i, DL.int_b, DL.eq_ii, DL.eq_ss, DL.lt_ii, DL.le_ii, DL.gt_ii, DL.ge_ii, DL.ix_0, DL.ix_1, DL.ix_2, DL.len_tt, DL.tup_n, $ts,*]) | `(tactic| simp only [wX, $ts,*] at $h:ident) => `(tactic| simp only [DL.Ss.wp, DL.S.wp, DL.E.wp, DL.E.wpT, DL.Es.wp, DL.Es.wpV, DL.Es.wpT, DL.Oe.wpO, DL.Oe.wpT, DL.Wk.wp, DL.wSeq, DL.wRet, DL.wRetN, DL.wNext, DL.wNever, DL.wDrop, DL.wAsg, DL.wIfS, DL.wFor, DL.wPar, DL.wPar3, DL.wParJ, DL.wParK, DL.wUpdX, DL.wFldS, DL.wSetI, DL.wSetK, DL.wDnew, DL.wDlit, DL.wMeth, DL.wBm, DL.wIxX, DL.wZipL, DL.wZipLT, DL.wItemsL, DL.wAndV, DL.wOrV, DL.wNotV, DL.wAnd, DL.wOr, DL.wNot, DL.wIfB, DL.wTest, DL.wTru, DL.wIf, DL.w1, DL.w2, DL.w3, DL.wVar, DL.wC, DL.wNil, DL.wCons, DL.wTup, DL.wLst, DL.wCall, DL.wCallK, DL.wO0, DL.wO1, DL.wSl, DL.wStep, DL.wLc, DL.wISeq, DL.wIR1, DL.wIR2, DL.wIZip, DL.wIStr, DL.wIEn, DL.wDc, DL.DcK.emp, DL.Wk.wp, DL.binF, DL.cmpF, DL.isaD, DL.negD, DL.Blt.spec, DL.Bm.spec, DL.Bm.ty, List.getElem?_cons_zero, List.getElem?_cons_succ, Option.some.injEq, exists_eq_left', exists_eq_left, exists_and_left, List.set_cons_zero, List.set_cons_succ, DL.asn_name, DL.asn_tup, DL.asns_nil, DL.asns_name, DL.wipeD, DL.tru_bl, DL.tru_int, DL.tru_non, DL.tru_tup, DL.bodyEnds, List.map_cons, List.map_nil, ↓reduceIte, Bool.false_eq_true, and_true, true_and, DL.D.str.injEq, DL.D.int.injEq, DL.D.ref.injEq, DL.D.tup.injEq, DL.D.bl.injEq, DL.add_ii, DL.add_ss, DL.add_tt, DL.mul_ii, DL.int_ii, DL.abs_i, DL.int_i, DL.int_b, DL.eq_ii, DL.eq_ss, DL.lt_ii, DL.le_ii, DL.gt_ii, DL.ge_ii, DL.ix_0, DL.ix_1, DL.ix_2, DL.len_tt, DL.tup_n, $ts,*] at $h:ident)
namespace DL
open PySem L2
def S_l_pot (_ : Cs) : Spec := fun ds M Q => ∃ a ns k, ds = [.ref a, .int k] ∧ M a = some (.scr ns) ∧ ns.length ≤ 100 ∧ 0 ≤ k ∧ k ≤ 100 ∧ ∀ M' p, Keep M M' → M p = none → M' p = some .pot → Q (.ref p) M'
abbrev N_l_pot : List Str := ["_law_script", "_law_k", "_law_cell", "_law_great"]
def ir_l_pot (c : Cs) : Ss := (.cons (.asg (.name 2) (.bin .Add (.bin .Mult (.int 3) (.var 1)) (.bcall .len (.cons (.var 0) .nil)))) (.cons (.ife (.cmp .Lt (.var 1) (.bcall .len (.cons (.var 0) .nil))) (.cons (.asg (.name 2) (.idx (.var 0) (.var 1))) .nil) .nil) (.cons (.asg (.name 3) (.bin .Mult (.bin .Mod (.bcall .abs (.cons (.var 2) .nil)) .big) (.bcall .int (.cons (.cmp .GtE (.bcall .abs (.cons (.var 2) .nil)) (.bin .Pow (.int 10) (.int 18))) .nil)))) (.cons (.ret (.lst (.cons (.var 3) (.cons (.bin .Mod (.bin .Mult (.bin .Add (.bin .Add (.bin .Mod (.var 2) (.int 2305843009213693951)) (.bin .Mult (.bin .Mult (.int 7919) (.var 1)) (.var 1))) (.int 11)) (.int 48271)) (.int 2305843009213693951)) .nil)))) .nil))))
theorem wp_l_pot (c : Cs) {a : Addr} {ns : List Int} {k : Int} {M : Mp} {Q : DQ} (ha : M a = some (.scr ns)) (hz : ns.length ≤ 100) (h0 : 0 ≤ k) (h1 : k ≤ 100) (h : ∀ p g m, M p = none → PotOk g m → Q (.ref p) (up M p (.lst [.int g, .int m]))) : (ir_l_pot c).wp (bodyEnds Q) [some (.ref a), some (.int k), none, none] M := by
  have ln : ∀ {Q : DQ}, Q (.int ns.length) M → lenS [.ref a] M Q := fun q => ⟨_, ns.length, rfl, .inr ⟨ns, ha, rfl⟩, q⟩
  simp only [wX, ir_l_pot]
  refine ⟨.inl ⟨by decide, by decide⟩, ln ?_⟩
  simp only [wX]
  refine ln ?_
  simp only [wX]
  have hT : (0 : Int) < potTop := by unfold potTop; exact Int.pow_pos (by decide)
  have kk : 0 ≤ 7919 * k := by omega
  have go : ∀ cell : Int, 0 < potTop ∧ CPow 10 18 ∧ CMul ((if cell < 0 then -cell else cell) % potTop) (if decide (10 ^ Int.toNat 18 ≤ if cell < 0 then -cell else cell) = true then 1 else 0) ∧ (0 : Int) < 2305843009213693951 ∧ CMul 7919 k ∧ CMul (7919 * k) k ∧
      CMul (cell % 2305843009213693951 + 7919 * k * k + 11) 48271 ∧ (0 : Int) < 2305843009213693951 ∧ [D.int ((if cell < 0 then -cell else cell) % potTop * if decide (10 ^ Int.toNat 18 ≤ if cell < 0 then -cell else cell) = true then 1 else 0), D.int ((cell % 2305843009213693951 + 7919 * k * k + 11) * 48271 % 2305843009213693951)].length ≤ sizeLine ∧
      ∀ p, M p = none → Q (D.ref p) (up M p (.lst [D.int ((if cell < 0 then -cell else cell) % potTop * if decide (10 ^ Int.toNat 18 ≤ if cell < 0 then -cell else cell) = true then 1 else 0), D.int ((cell % 2305843009213693951 + 7919 * k * k + 11) * 48271 % 2305843009213693951)])) := by
    intro cell
    generalize (if cell < 0 then -cell else cell) = z
    generalize decide ((10 : Int) ^ Int.toNat 18 ≤ z) = b
    refine ⟨hT, ⟨by decide, by decide, by decide⟩, .inr ?_, by decide, .inl ⟨by decide, by decide⟩, .inr ⟨by omega, by omega⟩, .inr ⟨by decide, by decide⟩, by decide, by simp [sizeLine_eq], fun p hp => h p _ _ hp ⟨?_, ?_, Int.emod_nonneg _ (by decide), Int.emod_lt_of_pos _ (by decide)⟩⟩
    · cases b <;> exact ⟨by decide, by decide⟩
    · cases b
      · simp
      · simpa using Int.emod_nonneg z (by omega)
    · cases b
      · simpa using hT
      · simpa using Int.emod_lt_of_pos z hT
  by_cases hk : k < ns.length
  · simp only [hk, decide_true, if_true]
    obtain ⟨n, rfl⟩ := Int.eq_ofNat_of_zero_le h0
    have hn : n < ns.length := by omega
    refine .inr (.inr ⟨a, ns, n, ns[n], rfl, ha, rfl, atI_nat (List.getElem?_eq_getElem hn), ?_⟩)
    simp only [wX]
    exact go _
  · simp only [hk, decide_false, Bool.false_eq_true, if_false]
    exact go _
end DL

set_option Elab.async false
set_option linter.all false
set_option maxRecDepth 100000
set_option maxHeartbeats 4000000
/-! W9: sorted things rise; names. -/
namespace DL
open PySem L2
/-- unlike things have unlike keys -/
def keyInj (xs : List D) : Prop := ∀ x ∈ xs, ∀ y ∈ xs, PySem.W.keyToks (py x) = PySem.W.keyToks (py y) → x = y
theorem sort_le (xs : List D) : (sortD xs).Pairwise fun x y => ltP y x = false := by
  have h := PySem.W.sort_pairwise (PySem.W.sortLe_total (PyProof.Rows.listOrd PyProof.Rows.itemOrd) false fun b => PySem.W.keyToks (py b)) xs
  refine List.Pairwise.imp (fun {a b} q => ?_) h
  have q : (!ltP b a) = true := q
  rwa [Bool.not_eq_true'] at q
theorem sort_perm (xs : List D) : (sortD xs).Perm xs := List.mergeSort_perm _ _
theorem sort_rise {xs : List D} (hi : keyInj xs) (nd : xs.Nodup) : risB (sortD xs) = true := by
  refine pair_ris ?_
  have h1 := sort_le xs
  have h2 : (sortD xs).Pairwise fun x y => x ≠ y := ((sort_perm xs).nodup_iff).mpr nd
  refine (h1.and h2).imp_of_mem fun {a b} ha hb q => ?_
  cases e : ltP a b with
  | true => rfl
  | false => exact (q.2 (hi a (mem_sort.mp ha) b (mem_sort.mp hb) (PyProof.Rows.lex_total _ _ e q.1))).elim
theorem toks_str (x : Str) : PySem.W.keyToks (py (.str x)) = [.inr x.cps.toList] := by simp only [py, PySem.W.keyToks]
theorem toks_tup (ds : List D) : PySem.W.keyToks (py (.tup ds)) = PySem.W.keyToksAll (pys ds) := by simp only [py, PySem.W.keyToks]
theorem str_ext {x y : Str} (h : x.cps.toList = y.cps.toList) : x = y := by
  cases x; cases y
  congr 1
  exact Array.toList_inj.mp h
theorem inj_strs {xs : List D} (h : ∀ x ∈ xs, ∃ s, x = .str s) : keyInj xs := fun x hx y hy e => by
  obtain ⟨s, rfl⟩ := h x hx
  obtain ⟨t, rfl⟩ := h y hy
  rw [toks_str, toks_str] at e
  injection e with e _
  injection e with e
  rw [str_ext e]
theorem toks_ints : ∀ (is js : List Int), PySem.W.keyToksAll (pys (is.map D.int)) = PySem.W.keyToksAll (pys (js.map D.int)) → is = js
  | [], [], _ => rfl
  | [], _ :: _, h => by simp [pys, py, PySem.W.keyToksAll, PySem.W.keyToks] at h
  | _ :: _, [], h => by simp [pys, py, PySem.W.keyToksAll, PySem.W.keyToks] at h
  | i :: is, j :: js, h => by
    simp [pys, py, PySem.W.keyToksAll, PySem.W.keyToks] at h
    rw [h.1, toks_ints is js h.2]
theorem inj_ties {xs : List D} (h : ∀ x ∈ xs, ∃ nm is, x = tie nm is) : keyInj xs := fun x hx y hy e => by
  obtain ⟨s, is, rfl⟩ := h x hx
  obtain ⟨t, js, rfl⟩ := h y hy
  unfold tie at e ⊢
  rw [toks_tup, toks_tup] at e
  simp only [pys, py, PySem.W.keyToksAll, PySem.W.keyToks, List.cons_append, List.nil_append] at e
  injection e with _ e
  injection e with e1 e2
  injection e1 with e1
  rw [str_ext e1, toks_ints is js e2]
/-! ### names -/
/-- a name with one q at the most -/
def noQ : D → Prop
  | .str z => z.cps.toList.count 113 ≤ 1
  | _ => True
structure NamesOk (many : Nat) (ns : List D) : Prop where
  len : ns.length = many
  each : ∀ x ∈ ns, isNm x = true
  rise : risB ns = true
  q1 : ∀ x ∈ ns, noQ x
/-- the letters: k-th of them -/
def lett (first leap k : Nat) : Nat := 97 + (first + leap * k) % 26
theorem leap_ne : ∀ leap ∈ [1, 3, 5, 7, 9, 11], ∀ d < 26, leap * d % 26 = 0 → d = 0 := by decide
theorem lett_le {first leap a b : Nat} (hl : leap ∈ [1, 3, 5, 7, 9, 11]) (hab : a ≤ b) (hb : b < 26) (h : lett first leap a = lett first leap b) : a = b := by
  unfold lett at h
  have h' : (first + leap * b) % 26 = (first + leap * a) % 26 := (Nat.add_left_cancel h).symm
  have h2 := Nat.sub_mod_eq_zero_of_mod_eq h'
  have e : first + leap * b - (first + leap * a) = leap * (b - a) := by rw [Nat.add_sub_add_left, ← Nat.mul_sub]
  rw [e] at h2
  have := leap_ne leap hl (b - a) (by omega) h2
  omega
theorem lett_inj {first leap a b : Nat} (hl : leap ∈ [1, 3, 5, 7, 9, 11]) (ha : a < 26) (hb : b < 26) (h : lett first leap a = lett first leap b) : a = b := by
  rcases Nat.le_total a b with q | q
  · exact lett_le hl q hb h
  · exact (lett_le hl q ha h.symm).symm
def nameOf (stem : List Nat) (at_ ch : Nat) : List Nat := stem.take at_ ++ [ch] ++ stem.drop at_
theorem nameOf_inj {stem : List Nat} {at_ a b : Nat} (h : nameOf stem at_ a = nameOf stem at_ b) : a = b := by
  unfold nameOf at h
  have h1 := List.append_cancel_right h
  have h2 := List.append_cancel_left h1
  injection h2
theorem nameOf_ok {stem : List Nat} {at_ ch : Nat} (hs : stem.length ≤ 5) (hl : ∀ c ∈ stem, isLetter c = true) (hc : isLetter ch = true) : nameS (SX.S (nameOf stem at_ ch)) = true := by
  have e : (nameOf stem at_ ch).length = stem.length + 1 := by
    unfold nameOf
    have := congrArg List.length (List.take_append_drop at_ stem)
    rw [List.length_append] at this
    simp only [List.length_append, List.length_cons, List.length_nil]
    omega
  unfold nameS
  rw [SX.S_len, e, Bool.and_eq_true, Bool.and_eq_true]
  refine ⟨⟨decide_eq_true (by omega), decide_eq_true (by omega)⟩, ?_⟩
  show (nameOf stem at_ ch).all isLetter = true
  rw [List.all_eq_true]
  intro c hc'
  unfold nameOf at hc'
  rcases List.mem_append.mp hc' with h | h
  · rcases List.mem_append.mp h with h | h
    · exact hl c (List.mem_of_mem_take h)
    · rw [List.mem_singleton.mp h]; exact hc
  · exact hl c (List.mem_of_mem_drop h)
theorem sort_strs {a : Addr} {xs : List D} {M : Mp} {Q : DQ} (hx : ∀ x ∈ xs, ∃ s, x = .str s) (ha : M a = some (.lst xs)) (h : ∀ p, M p = none → Q (.ref p) (up M p (.lst (sortD xs)))) : sortedS [.ref a] M Q := by
  refine ⟨a, _, rfl, ha, plains_of fun d hd => ?_, fun d hd d' hd' => ?_, .inl (.inr fun d hd => ?_), fun d hd => ?_, h⟩
  · obtain ⟨s, rfl⟩ := hx d hd
    rfl
  · obtain ⟨x, h1, rfl⟩ := List.mem_map.mp hd
    obtain ⟨y, h2, rfl⟩ := List.mem_map.mp hd'
    obtain ⟨s, rfl⟩ := hx x h1
    obtain ⟨s', rfl⟩ := hx y h2
    simp [py, PySem.W.alike]
  · obtain ⟨x, h1, rfl⟩ := List.mem_map.mp hd
    obtain ⟨s, rfl⟩ := hx x h1
    simp [py]
  · obtain ⟨s, rfl⟩ := hx d hd
    simp [py, PyData.depth]
def oneD (ch : Nat) : D := .str ⟨#[ch]⟩
theorem join_ones : ∀ cs : List Nat, TL.joinL [] (cs.map fun ch => [ch]) = cs
  | [] => rfl
  | [_] => rfl
  | x :: y :: r => by
    show [x] ++ ([] ++ TL.joinL [] ((y :: r).map fun ch => [ch])) = _
    rw [join_ones (y :: r)]
    rfl
theorem alpha_at : ∀ n < 26, (Str.ofString "abcdefghijklmnopqrstuvwxyz").cps.toList[n]? = some (97 + n) := by decide +kernel
theorem six_at : ∀ ch ∈ (Str.ofString "abcxyz").cps.toList, isLetter ch = true ∧ ch ≠ 113 := by decide +kernel
theorem nameOf_q {stem : List Nat} {at_ ch : Nat} (hl : ∀ c ∈ stem, isLetter c = true ∧ c ≠ 113) : noQ (.str (SX.S (nameOf stem at_ ch))) := by
  have e : ∀ l : List Nat, (∀ c ∈ l, c ∈ stem) → l.count 113 = 0 := fun l h => List.count_eq_zero.mpr fun hm => (hl _ (h _ hm)).2 rfl
  show (nameOf stem at_ ch).count 113 ≤ 1
  unfold nameOf
  rw [List.count_append, List.count_append, e _ fun c h => List.mem_of_mem_take h, e _ fun c h => List.mem_of_mem_drop h]
  have := List.count_le_length (a := 113) (l := [ch])
  simp only [List.length_cons, List.length_nil] at this
  omega
def S_l_names (_ : Cs) : Spec := fun ds M Q => ∃ (p : Addr) (many : Nat), ds = [.ref p, .int many] ∧ M p = some .pot ∧ many ≤ 26 ∧ ∀ M' q ns, Keep M M' → M q = none → M' q = some (.lst ns) → NamesOk many ns → Q (.ref q) M'
abbrev N_l_names : List Str := ["_law_pot_here", "_law_many", "_law_stem", "_law_letters", "_law_at", "_law_first", "_law_leap", "_law_k", "_law_letter"]
def ir_l_names (c : Cs) : Ss := (.cons (.asg (.name 2) (.bm .join (.str "") (.cons (.lc [("_law_k", 7)] (.name 7) (.r1 (.call "_law_take" (S_l_take c) (.cons (.var 0) (.cons (.int 6) .nil)))) .none (.call "_law_of" (S_l_of c) (.cons (.var 0) (.cons (.bcall .list (.cons (.str "abcxyz") .nil)) .nil)))) .nil))) (.cons (.asg (.tup (.cons (.name 4) (.cons (.name 5) (.cons (.name 6) .nil)))) (.tup (.cons (.call "_law_take" (S_l_take c) (.cons (.var 0) (.cons (.bin .Add (.bcall .len (.cons (.var 2) .nil)) (.int 1)) .nil))) (.cons (.call "_law_take" (S_l_take c) (.cons (.var 0) (.cons (.int 26) .nil))) (.cons (.call "_law_of" (S_l_of c) (.cons (.var 0) (.cons (.lst (.cons (.int 1) (.cons (.int 3) (.cons (.int 5) (.cons (.int 7) (.cons (.int 9) (.cons (.int 11) .nil))))))) .nil))) .nil))))) (.cons (.setLc 3 [("_law_k", 7)] (.name 7) (.r1 (.var 1)) .none (.idx (.str "abcdefghijklmnopqrstuvwxyz") (.bin .Mod (.bin .Add (.var 5) (.bin .Mult (.var 6) (.var 7))) (.int 26)))) (.cons (.ret (.bcall .sorted (.cons (.lc [("_law_letter", 8)] (.name 8) (.seq (.var 3)) .none (.bin .Add (.bin .Add (.slc (.var 2) .none (.some (.var 4))) (.var 8)) (.slc (.var 2) (.some (.var 4)) .none))) .nil))) .nil))))
theorem wp_l_names (c : Cs) {p : Addr} {many : Nat} {M : Mp} {Q : DQ} (hp : M p = some .pot) (hm : many ≤ 26) (h : ∀ M' q ns, Keep M M' → M q = none → M' q = some (.lst ns) → NamesOk many ns → Q (.ref q) M') : (ir_l_names c).wp (bodyEnds Q) [some (.ref p), some (.int many), none, none, none, none, none, none, none] M := by
  simp only [wX, ir_l_names]
  refine ⟨rfl, p, 6, rfl, hp, by decide, by decide, fun n n0 n1 => ?_⟩
  refine ⟨n, rfl, by unfold small62; omega, by rw [rng_len, sizeLine_eq]; omega, ?_⟩
  refine lcGo_inv (T := ⟨rngI 0 n, fun _ => True⟩) (fun done acc M2 => Keep M M2 ∧ ∃ cs : List Nat, acc = cs.map oneD ∧ cs.length = done.length ∧ ∀ ch ∈ cs, isLetter ch = true ∧ ch ≠ 113) (fun _ _ _ _ => trivial) _ [] [] M ⟨.refl _, [], rfl, rfl, fun ch hc => by cases hc⟩ (fun x hx done acc M2 k hJ hk => ?_) fun acc M2 hJ q hq => ?_
  · obtain ⟨k2, cs, rfl, hl, hc⟩ := hJ
    refine ⟨_, rfl, yes_if ?_⟩
    simp only [wX]
    refine .inr ⟨_, rfl, by decide +kernel, fun l hl2 => ?_⟩
    refine ⟨p, l, _, rfl, Keep.new hl2 _ _ (k2 _ _ hp), up_same, by decide +kernel, by decide +kernel, fun y hy => ?_⟩
    unfold strL at hy
    obtain ⟨ch, hch, rfl⟩ := List.mem_map.mp hy
    refine hk _ _ ⟨k2.trans (.new hl2), cs ++ [ch], ?_, ?_, fun z hz => ?_⟩
    · rw [List.map_append]; rfl
    · rw [List.length_append, List.length_append, hl]; rfl
    · rcases List.mem_append.mp hz with hz | hz
      · exact hc z hz
      · rw [List.mem_singleton.mp hz]; exact six_at ch hch
  · obtain ⟨k2, cs, rfl, hl, hc⟩ := hJ
    rw [List.nil_append, rng_len] at hl
    have zc : cs.length ≤ 5 := by omega
    have k3 : Keep M (up M2 q (.lst (cs.map oneD))) := k2.trans (.new hq)
    have ey : ((cs.map fun ch => [ch]).map SX.S).map D.str = cs.map oneD := by rw [List.map_map, List.map_map]; rfl
    refine ⟨SX.S [], _, (cs.map fun ch => [ch]).map SX.S, by rfl, rfl, .inr ⟨q, rfl, by rw [ey]; exact up_same⟩, ?_, ?_⟩
    · rw [SX.lens, List.map_map, SX.S_len, List.length_map, List.length_map]
      have e2 : (cs.map ((fun x : List Nat => x.length) ∘ fun ch => [ch])) = List.replicate cs.length 1 := by
        rw [List.eq_replicate_iff]
        refine ⟨by simp, fun b hb => ?_⟩
        obtain ⟨ch, _, rfl⟩ := List.mem_map.mp hb
        rfl
      rw [e2, List.sum_replicate_nat, List.length_nil]
      omega
    rw [SX.join_S, join_ones]
    have zS : (SX.S cs).length = cs.length := SX.S_len cs
    refine ⟨_, _, rfl, ⟨by rw [zS, sizeLine_eq]; omega, rfl⟩, ?_⟩
    simp only [wX, zS]
    refine ⟨p, _, rfl, k3 _ _ hp, by omega, by omega, fun at_ a0 a1 => ?_⟩
    refine ⟨p, 26, rfl, k3 _ _ hp, by decide, by decide, fun first f0 f1 => ?_⟩
    refine ⟨by simp [sizeLine_eq], fun l hl2 => ?_⟩
    have k4 : Keep M (up (up M2 q (.lst (cs.map oneD))) l (.lst [D.int 1, D.int 3, D.int 5, D.int 7, D.int 9, D.int 11])) := k3.trans (.new hl2)
    refine ⟨p, l, _, rfl, k4 _ _ hp, up_same, by simp, by simp, fun y hy => ?_⟩
    obtain ⟨at_, rfl⟩ := Int.eq_ofNat_of_zero_le a0
    obtain ⟨first, rfl⟩ := Int.eq_ofNat_of_zero_le f0
    obtain ⟨leap, rfl, hleap⟩ : ∃ leap : Nat, y = .int leap ∧ leap ∈ [1, 3, 5, 7, 9, 11] := by
      simp only [List.mem_cons, List.not_mem_nil, or_false] at hy
      rcases hy with rfl | rfl | rfl | rfl | rfl | rfl
      · exact ⟨1, rfl, by decide⟩
      · exact ⟨3, rfl, by decide⟩
      · exact ⟨5, rfl, by decide⟩
      · exact ⟨7, rfl, by decide⟩
      · exact ⟨9, rfl, by decide⟩
      · exact ⟨11, rfl, by decide⟩
    refine ⟨by simp [sizeLine_eq], by unfold small62; omega, by rw [rng_len, sizeLine_eq]; omega, ?_⟩
    generalize up (up M2 q (.lst (cs.map oneD))) l (.lst [D.int 1, D.int 3, D.int 5, D.int 7, D.int 9, D.int 11]) = M4 at k4 ⊢
    have hleap' : leap ≤ 11 := by simp only [List.mem_cons, List.not_mem_nil, or_false] at hleap; omega
    refine lcGo_map (T := ⟨rngI 0 many, fun _ => True⟩) (M0 := M4) (fun x => match x with | .int i => some (oneD (lett first leap i.toNat)) | _ => none) (fun _ _ => trivial) _ M4 (.refl _) (fun x hx acc M5 k k5 hk => ?_) fun M5 k5 r hr => ?_
    · obtain ⟨i, rfl, i0, i1⟩ := rng_mem hx
      obtain ⟨i, rfl⟩ := Int.eq_ofNat_of_zero_le i0
      refine ⟨_, rfl, yes_if ?_⟩
      simp only [wX]
      refine ⟨.inl ⟨by omega, by omega⟩, by decide, .inr (.inl ⟨_, _, lett first leap i, rfl, rfl, by decide +kernel, ?_, hk M5 k5⟩)⟩
      have e : ((first : Int) + (leap : Int) * (i : Int)) % 26 = (((first + leap * i) % 26 : Nat) : Int) := by
        rw [Int.natCast_emod, Int.natCast_add, Int.natCast_mul]; rfl
      rw [e]
      exact atI_nat (alpha_at _ (Nat.mod_lt _ (by decide)))
    · generalize eL : (rngI 0 (many : Int)).filterMap _ = ls
      have eL' : ls = (List.range many).map fun i => oneD (lett first leap i) := by
        rw [← eL]
        unfold rngI
        rw [Int.sub_zero, Int.toNat_natCast, List.filterMap_map, ← List.filterMap_eq_map']
        congr 1
        funext a
        simp
      have zl : ls.length ≤ 26 := by rw [eL', List.length_map, List.length_range]; exact hm
      clear eL
      refine ⟨_, seqT_l up_same, by show ls.length ≤ sizeLine; rw [sizeLine_eq]; omega, ?_⟩
      have k6 : Keep M4 (up M5 r (.lst ls)) := k5.trans (.new hr)
      refine lcGo_map (T := ⟨ls, fun M => M r = some (.lst ls)⟩) (M0 := up M5 r (.lst ls)) (fun x => match x with | .str z => some (.str (SX.S (nameOf cs at_ (z.cps.toList.headD 0)))) | _ => none) (fun M6 k6 => k6 _ _ up_same) ls _ (.refl _) (fun x hx acc M6 k k7 hk => ?_) fun M6 k7 s hs => ?_
      · rw [eL'] at hx
        obtain ⟨i, hi, rfl⟩ := List.mem_map.mp hx
        refine ⟨_, rfl, yes_if ?_⟩
        simp only [wX, slD]
        refine ⟨by rw [zS, sizeLine_eq]; omega, ?_⟩
        rw [C8.cutS_slice, SX.slice_to (by omega), C8.cutS_slice, SX.slice_from (by omega), Int.toNat_natCast]
        have hk' := hk M6 k7
        have e1 : (SX.S (cs.take at_)).length ≤ 5 := by rw [SX.S_len, List.length_take]; omega
        have e2 : (SX.S (cs.drop at_)).length ≤ 5 := by rw [SX.S_len, List.length_drop]; omega
        have e3 : SX.S (cs.take at_) ++ (⟨#[lett first leap i]⟩ : Str) = SX.S (cs.take at_ ++ [lett first leap i]) := SX.S_cat _ [lett first leap i]
        refine ⟨by show _ + 1 ≤ sizeLine; rw [sizeLine_eq]; omega, by rw [zS, sizeLine_eq]; omega, ?_, ?_⟩
        · rw [e3, SX.S_len, List.length_append, List.length_take, sizeLine_eq]
          simp only [List.length_cons, List.length_nil]
          omega
        · rw [e3, SX.S_cat]
          exact hk'
      · generalize eN : ls.filterMap _ = ns0
        have eN' : ns0 = (List.range many).map fun i => D.str (SX.S (nameOf cs at_ (lett first leap i))) := by
          rw [← eN, eL', List.filterMap_map, ← List.filterMap_eq_map']
          congr 1
        clear eN
        have hstr : ∀ x ∈ ns0, ∃ i, i < many ∧ x = .str (SX.S (nameOf cs at_ (lett first leap i))) := fun x hx => by
          rw [eN'] at hx
          obtain ⟨i, hi, rfl⟩ := List.mem_map.mp hx
          exact ⟨i, List.mem_range.mp hi, rfl⟩
        refine sort_strs (xs := ns0) (fun x hx => let ⟨i, _, e⟩ := hstr x hx; ⟨_, e⟩) up_same fun t ht => ?_
        have k8 : Keep M (up (up M6 s (.lst ns0)) t (.lst (sortD ns0))) := k4.trans (k6.trans (k7.trans ((Keep.new hs).trans (.new ht))))
        have kt : Keep M (up M6 s (.lst ns0)) := k4.trans (k6.trans (k7.trans (Keep.new hs)))
        refine h _ t (sortD ns0) k8 (kt.none ht) up_same ⟨?_, fun x hx => ?_, sort_rise (inj_strs fun x hx => let ⟨i, _, e⟩ := hstr x hx; ⟨_, e⟩) ?_, fun x hx => ?_⟩
        · rw [len_sort, eN', List.length_map, List.length_range]
        · obtain ⟨i, hi, rfl⟩ := hstr x (mem_sort.mp hx)
          refine nameOf_ok zc (fun c h => (hc c h).1) ?_
          unfold lett isLetter
          have := Nat.mod_lt (first + leap * i) (show 26 > 0 by decide)
          rw [Bool.and_eq_true]
          exact ⟨decide_eq_true (by omega), decide_eq_true (by omega)⟩
        · rw [eN']
          refine nodup_on List.nodup_range fun a ha b hb e => ?_
          rw [List.mem_range] at ha hb
          injection e with e
          exact lett_inj hleap (by omega) (by omega) (nameOf_inj (SX.S_inj e))
        · obtain ⟨i, hi, rfl⟩ := hstr x (mem_sort.mp hx)
          exact nameOf_q hc
end DL

set_option Elab.async false
set_option linter.all false
set_option maxRecDepth 100000
set_option maxHeartbeats 4000000
/-! W10: the law's house. -/
namespace DL
open PySem L2
theorem cut_take {α : Type} {xs : List α} {n : Nat} (h : n ≤ xs.length) : cutL xs none (some (n : Int)) = xs.take n := by
  unfold cutL
  rw [HT.sIx_nat, HT.sIx_none, Nat.min_eq_left h, Nat.sub_zero, List.drop_zero]
theorem cut_mid {α : Type} {xs : List α} {a b : Nat} (hab : a ≤ b) (h : b ≤ xs.length) : cutL xs (some (a : Int)) (some (b : Int)) = (xs.drop a).take (b - a) := by
  unfold cutL
  rw [HT.sIx_nat, HT.sIx_nat, Nat.min_eq_left h, Nat.min_eq_left (Nat.le_trans hab h)]
theorem ris_sub {xs ys : List D} (h : risB ys = true) (s : xs.Sublist ys) : risB xs = true := pair_ris ((ris_pair h).sublist s)
theorem nm_str {x : D} (h : isNm x = true) : ∃ nm, x = .str nm ∧ nameS nm = true := by
  cases x <;> first | exact ⟨_, rfl, h⟩ | cases h
theorem rules_of {s : Nat} {ns acc : List D} (hn : ∀ x ∈ ns, isNm x = true) (hr : risB ns = true) (hl : ns.length ≤ 3) (em : acc.map nameD = ns) (ha : ∀ d ∈ acc, ∃ x prs, d = .tup [x, .tup prs] ∧ PrsOk s prs) : RulesOk s acc := by
  refine ⟨?_, fun d hd => ?_, by rw [em]; exact hr⟩
  · have := congrArg List.length em
    rw [List.length_map] at this
    omega
  · obtain ⟨x, prs, rfl, ok⟩ := ha d hd
    obtain ⟨nm, e, h⟩ := nm_str (hn x (by rw [← em]; exact List.mem_map.mpr ⟨_, hd, rfl⟩))
    subst e
    exact ⟨nm, prs, rfl, h, ok.each, ok.rise⟩
structure MarksOk (s : Nat) (ms : List D) : Prop where
  each : ∀ x ∈ ms, isWh x 0 ((s : Int) - 1) = true
  rise : risB ms = true
theorem lt_int (i j : Int) : ltP (.int i) (.int j) = decide (i < j) := by
  unfold ltP
  simp only [py]
  exact PySem.W.dataLt_int i j
theorem rng_rise (n : Int) : risB (rngI 0 n) = true := pair_ris ((rng_pair n).imp fun {a b} h => by
  obtain ⟨i, j, rfl, rfl, h⟩ := h
  rw [lt_int, decide_eq_true_eq]
  exact h)
theorem MarksOk.sub {s : Nat} {ms : List D} (h : ms.Sublist (rngI 0 s)) : MarksOk s ms := by
  refine ⟨fun x hx => ?_, ris_sub (rng_rise _) h⟩
  obtain ⟨i, rfl, i0, i1⟩ := rng_mem (h.subset hx)
  exact wh_of i0 i1
theorem lists_of {s : Nat} {ns acc : List D} (hn : ∀ x ∈ ns, isNm x = true) (hr : risB ns = true) (hl : ns.length ≤ 6) (em : acc.map nameD = ns) (ha : ∀ d ∈ acc, ∃ x ms, d = .tup [x, .tup ms] ∧ MarksOk s ms) : ListsOk s acc := by
  refine ⟨?_, fun d hd => ?_, by rw [em]; exact hr⟩
  · have := congrArg List.length em
    rw [List.length_map] at this
    omega
  · obtain ⟨x, prs, rfl, ok⟩ := ha d hd
    obtain ⟨nm, e, h⟩ := nm_str (hn x (by rw [← em]; exact List.mem_map.mpr ⟨_, hd, rfl⟩))
    subst e
    exact ⟨nm, prs, rfl, h, ok.each, ok.rise⟩
theorem len_em {acc ns : List D} (em : acc.map nameD = ns) : acc.length = ns.length := by rw [← em, List.length_map]
def S_l_home (_ : Cs) : Spec := fun ds M Q => ∃ (p : Addr) (most : Nat), ds = [.ref p, .int most] ∧ M p = some .pot ∧ 1 ≤ most ∧ most ≤ 4 ∧ ∀ M' (s : Nat) rs ls, Keep M M' → 1 ≤ s → s ≤ most → RulesOk s rs → ListsOk s ls → 1 ≤ rs.length → ls.length ≤ 4 → (∀ x ∈ rs.map nameD, noQ x) ∧ (∀ x ∈ ls.map nameD, noQ x) → Q (.tup [.int s, .tup rs, .tup ls]) M'
abbrev N_l_home : List Str := ["_law_pot_here", "_law_most", "_law_laid", "_law_kept", "_law_name", "_law_size", "_law_names_here", "_law_mark"]
def ir_l_home (c : Cs) : Ss := (.cons (.asg (.tup (.cons (.name 5) (.cons (.name 6) .nil))) (.tup (.cons (.bin .Add (.int 1) (.call "_law_take" (S_l_take c) (.cons (.var 0) (.cons (.var 1) .nil)))) (.cons (.call "_law_names" (S_l_names c) (.cons (.var 0) (.cons (.int 8) .nil))) .nil)))) (.cons (.asg (.name 2) (.bcall .tuple (.cons (.lc [("_law_name", 4)] (.name 4) (.seq (.slc (.var 6) .none (.some (.bin .Add (.int 1) (.call "_law_take" (S_l_take c) (.cons (.var 0) (.cons (.int 3) .nil))))))) .none (.tup (.cons (.var 4) (.cons (.call "_law_pairs" (S_l_pairs c) (.cons (.var 0) (.cons (.var 5) .nil))) .nil)))) .nil))) (.cons (.ife (.cmp .Eq (.call "_law_take" (S_l_take c) (.cons (.var 0) (.cons (.int 3) .nil))) (.int 0)) (.cons (.ret (.tup (.cons (.var 5) (.cons (.var 2) (.cons (.bcall .tuple (.cons (.lc [("_law_mark", 7)] (.name 7) (.r1 (.var 5)) .none (.tup (.cons (.idx (.var 6) (.bin .Add (.int 3) (.var 7))) (.cons (.tup (.cons (.var 7) .nil)) .nil)))) .nil)) .nil))))) .nil) .nil) (.cons (.asg (.name 3) (.lst .nil)) (.cons (.for_ (.name 4) (.seq (.slc (.var 6) (.some (.int 3)) (.some (.bin .Add (.int 3) (.call "_law_take" (S_l_take c) (.cons (.var 0) (.cons (.int 3) .nil))))))) (.cons (.expr (.bm .append (.var 3) (.cons (.tup (.cons (.var 4) (.cons (.bcall .tuple (.cons (.lc [("_law_mark", 7)] (.name 7) (.r1 (.var 5)) (.some (.cmp .Gt (.call "_law_take" (S_l_take c) (.cons (.var 0) (.cons (.int 3) .nil))) (.int 0))) (.var 7)) .nil)) .nil))) .nil))) .nil)) (.cons (.ret (.tup (.cons (.var 5) (.cons (.var 2) (.cons (.bcall .tuple (.cons (.var 3) .nil)) .nil))))) .nil))))))
theorem wp_l_home (c : Cs) {p : Addr} {most : Nat} {M : Mp} {Q : DQ} (hp : M p = some .pot) (h1 : 1 ≤ most) (h4 : most ≤ 4) (h : ∀ M' (s : Nat) rs ls, Keep M M' → 1 ≤ s → s ≤ most → RulesOk s rs → ListsOk s ls → 1 ≤ rs.length → ls.length ≤ 4 → (∀ x ∈ rs.map nameD, noQ x) ∧ (∀ x ∈ ls.map nameD, noQ x) → Q (.tup [.int s, .tup rs, .tup ls]) M') :
    (ir_l_home c).wp (bodyEnds Q) [some (.ref p), some (.int most), none, none, none, none, none, none] M := by
  simp only [wX, ir_l_home]
  refine ⟨p, most, rfl, hp, by omega, by omega, fun r r0 r1 => ?_⟩
  simp only [wX]
  refine ⟨p, 8, rfl, hp, by decide, fun M1 nq ns k1 hnq hns okn => ?_⟩
  obtain ⟨r, rfl⟩ := Int.eq_ofNat_of_zero_le r0
  obtain ⟨s, hs⟩ : ∃ s : Nat, s = 1 + r := ⟨_, rfl⟩
  have es : (1 : Int) + (r : Int) = (s : Int) := by omega
  simp only [es]
  refine ⟨by simp [sizeLine_eq], p, 3, rfl, k1 _ _ hp, by decide, by decide, fun r2 s0 s1 => ?_⟩
  simp only [wX]
  obtain ⟨r2, rfl⟩ := Int.eq_ofNat_of_zero_le s0
  have e2 : (1 : Int) + (r2 : Int) = ((1 + r2 : Nat) : Int) := by omega
  have hl8 : ns.length = 8 := okn.len
  refine slD_l (ds' := ns.take (1 + r2)) (by rw [e2]; exact cut_take (by omega)) hns fun l hl => ?_
  have k2 : Keep M (up M1 l (.lst (ns.take (1 + r2)))) := k1.trans (.new hl)
  have hns2 : up M1 l (.lst (ns.take (1 + r2))) nq = some (.lst ns) := Keep.new hl _ _ hns
  have zt : (ns.take (1 + r2)).length = 1 + r2 := by rw [List.length_take]; omega
  refine ⟨_, seqT_l up_same, by show (ns.take (1 + r2)).length ≤ sizeLine; rw [zt, sizeLine_eq]; omega, ?_⟩
  refine lcGo_inv (T := ⟨ns.take (1 + r2), fun M => M l = some (.lst (ns.take (1 + r2)))⟩) (fun done acc M2 => Keep (up M1 l (.lst (ns.take (1 + r2)))) M2 ∧ acc.map nameD = done ∧ ∀ d ∈ acc, ∃ x prs, d = .tup [x, .tup prs] ∧ PrsOk s prs) (fun _ _ _ hJ => hJ.1 _ _ up_same) _ [] [] _ ⟨.refl _, rfl, fun d hd => by cases hd⟩ (fun x hx done acc M2 k hJ hk => ?_) fun acc M2 hJ q hq => ?_
  · obtain ⟨k3, em, ha⟩ := hJ
    refine ⟨_, rfl, yes_if ?_⟩
    simp only [wX]
    refine ⟨p, s, rfl, k3 _ _ (k2 _ _ hp), by omega, by omega, fun M3 prs k4 ok => ?_⟩
    refine ⟨by simp [sizeLine_eq], hk _ _ ⟨k3.trans k4, ?_, fun d hd => ?_⟩⟩
    · rw [List.map_append, em]; rfl
    · rcases List.mem_append.mp hd with hd | hd
      · exact ha d hd
      · obtain rfl := List.mem_singleton.mp hd
        exact ⟨x, prs, rfl, ok⟩
  obtain ⟨k3, em, ha⟩ := hJ
  rw [List.nil_append] at em
  have okr : RulesOk s acc := rules_of (fun x hx => okn.each x (List.mem_of_mem_take hx)) (ris_sub okn.rise (List.take_sublist _ _)) (by omega) em ha
  have lacc : 1 ≤ acc.length := by rw [len_em em, zt]; omega
  have rq : ∀ x ∈ acc.map nameD, noQ x := fun x hx => okn.q1 x (List.mem_of_mem_take (by rw [em] at hx; exact hx))
  have k4 : Keep M (up M2 q (.lst acc)) := k2.trans (k3.trans (.new hq))
  have hns4 : up M2 q (.lst acc) nq = some (.lst ns) := Keep.new hq _ _ (k3 _ _ hns2)
  generalize up M2 q (.lst acc) = M4 at k4 hns4 ⊢
  clear k3 ha em hq k2 hns2 hl hns k1
  refine ⟨p, 3, rfl, k4 _ _ hp, by decide, by decide, fun r3 t0 t1 => ?_⟩
  simp only [wX]
  by_cases hr3 : r3 = 0
  · simp only [hr3, decide_true, if_true]
    refine ⟨by unfold small62; omega, by rw [rng_len, sizeLine_eq]; omega, ?_⟩
    refine lcGo_map (T := ⟨rngI 0 s, fun _ => True⟩) (M0 := M4) (fun x => match x with | .int i => some (.tup [ns.getD (3 + i.toNat) .non, .tup [.int i]]) | _ => none) (fun _ _ => trivial) _ M4 (.refl _) (fun x hx acc2 M5 k k5 hk => ?_) fun M5 k5 w hw => ?_
    · obtain ⟨i, rfl, i0, i1⟩ := rng_mem hx
      obtain ⟨i, rfl⟩ := Int.eq_ofNat_of_zero_le i0
      refine ⟨_, rfl, yes_if ?_⟩
      simp only [wX]
      have e3 : (3 : Int) + (i : Int) = ((3 + i : Nat) : Int) := by omega
      rw [e3]
      have hi : 3 + i < ns.length := by omega
      refine ix_l (3 + i) (k5 _ _ hns4) (List.getElem?_eq_getElem hi) ?_
      refine ⟨by simp [sizeLine_eq], by simp [sizeLine_eq], ?_⟩
      have := hk M5 k5
      simpa [List.getD, List.getElem?_eq_getElem hi] using this
    · refine ⟨by simp [sizeLine_eq], ?_⟩
      generalize eL : (rngI 0 (s : Int)).filterMap _ = ls
      have eL' : ls = (List.range s).map fun i => D.tup [ns.getD (3 + i) .non, .tup [.int (i : Nat)]] := by
        rw [← eL]
        unfold rngI
        rw [Int.sub_zero, Int.toNat_natCast, List.filterMap_map, ← List.filterMap_eq_map']
        congr 1
        funext a
        simp
      have en : ls.map nameD = (List.range s).map fun i => ns.getD (3 + i) .non := by rw [eL', List.map_map]; rfl
      clear eL
      have zl : ls.length = s := by rw [eL', List.length_map, List.length_range]
      refine h _ s acc ls (k4.trans (k5.trans (.new hw))) (by omega) (by omega) okr (lists_of (ns := ls.map nameD) (fun x hx => ?_) ?_ (by rw [List.length_map]; omega) rfl fun d hd => ?_) lacc (by omega) ⟨rq, fun x hx => ?_⟩
      · rw [en] at hx
        obtain ⟨i, hi, rfl⟩ := List.mem_map.mp hx
        rw [List.mem_range] at hi
        have hi : 3 + i < ns.length := by omega
        have : ns.getD (3 + i) .non = ns[3 + i] := by simp [List.getD, List.getElem?_eq_getElem hi]
        rw [this]
        exact okn.each _ (List.getElem_mem hi)
      · refine pair_ris ?_
        rw [en, List.pairwise_map]
        refine List.Pairwise.imp_of_mem (fun {a b} ha hb hab => ?_) (List.pairwise_lt_range (n := s))
        rw [List.mem_range] at ha hb
        have ha' : 3 + a < ns.length := by omega
        have hb' : 3 + b < ns.length := by omega
        have e1 : ns.getD (3 + a) .non = ns[3 + a] := by simp [List.getD, List.getElem?_eq_getElem ha']
        have e2 : ns.getD (3 + b) .non = ns[3 + b] := by simp [List.getD, List.getElem?_eq_getElem hb']
        rw [e1, e2]
        exact List.pairwise_iff_getElem.mp (ris_pair okn.rise) _ _ ha' hb' (by omega)
      · rw [eL'] at hd
        obtain ⟨i, hi, rfl⟩ := List.mem_map.mp hd
        rw [List.mem_range] at hi
        exact ⟨_, _, rfl, fun x hx => by rw [List.mem_singleton.mp hx]; exact wh_of (by omega) (by omega), rfl⟩
      · rw [en] at hx
        obtain ⟨i, hi, rfl⟩ := List.mem_map.mp hx
        rw [List.mem_range] at hi
        have hi : 3 + i < ns.length := by omega
        have : ns.getD (3 + i) .non = ns[3 + i] := by simp [List.getD, List.getElem?_eq_getElem hi]
        rw [this]
        exact okn.q1 _ (List.getElem_mem hi)
  · simp only [hr3, decide_false, Bool.false_eq_true, if_false]
    refine ⟨by simp [sizeLine_eq], fun kp hkp => ?_⟩
    have k5 : Keep M4 (up M4 kp (.lst [])) := .new hkp
    refine ⟨p, 3, rfl, k5 _ _ (k4 _ _ hp), by decide, by decide, fun r4 u0 u1 => ?_⟩
    simp only [wX]
    obtain ⟨r4, rfl⟩ := Int.eq_ofNat_of_zero_le u0
    have e3 : (3 : Int) + (r4 : Int) = ((3 + r4 : Nat) : Int) := by omega
    refine slD_l (ds' := (ns.drop 3).take r4) (by rw [e3]; exact (cut_mid (a := 3) (b := 3 + r4) (by omega) (by omega)).trans (by rw [Nat.add_sub_cancel_left])) (k5 _ _ hns4) fun l hl => ?_
    refine ⟨_, seqT_l up_same, ?_⟩
    have k6 : Keep M4 (up (up M4 kp (.lst [])) l (.lst ((ns.drop 3).take r4))) := k5.trans (.new hl)
    have nlk : kp ≠ l := fun e => by subst e; rw [up_same] at hl; cases hl
    have hsub : ((ns.drop 3).take r4).Sublist ns := (List.take_sublist _ _).trans (List.drop_sublist _ _)
    have zt2 : ((ns.drop 3).take r4).length ≤ 2 := by rw [List.length_take]; omega
    generalize hsl : (ns.drop 3).take r4 = sl at *
    refine forGo_pos (T := ⟨sl, fun M => M l = some (.lst sl)⟩) (fun done ρ M5 => Keep M4 M5 ∧ M5 l = some (.lst sl) ∧ (∃ acc2, M5 kp = some (.lst acc2) ∧ acc2.map nameD = done ∧ ∀ d ∈ acc2, ∃ x ms, d = .tup [x, .tup ms] ∧ MarksOk s ms) ∧ ∃ v, ρ = [some (.ref p), some (.int most), some (.tup acc), some (.ref kp), v, some (.int s), some (.ref nq), none]) (fun _ _ _ hJ => hJ.2.1) sl [] _ _ ⟨k6, up_same, ⟨[], by rw [up_ne nlk]; exact up_same, rfl, fun d hd => by cases hd⟩, _, rfl⟩ (fun x pre post e ρ M5 k hJ hk => ?_) fun ρ M5 hJ => ?_
    · obtain ⟨k7, hl7, ⟨acc2, hk7, em2, ha2⟩, v, rfl⟩ := hJ
      rw [List.nil_append] at em2 hk
      refine ⟨_, rfl, ?_⟩
      simp only [wX]
      refine ⟨.inl ⟨rfl, _, hk7⟩, by unfold small62; omega, by rw [rng_len, sizeLine_eq]; omega, ?_⟩
      refine lcGo_sub (T := ⟨rngI 0 s, fun _ => True⟩) (M0 := M5) (fun _ _ => trivial) (rngI 0 s) M5 (.refl _) (fun y hy acc3 M6 k' k8 y1 y2 => ?_) fun ms M6 k8 hms w hw => ?_
      · refine ⟨_, rfl, ?_⟩
        simp only [wX]
        refine ⟨p, 3, rfl, k8 _ _ (k7 _ _ (k4 _ _ hp)), by decide, by decide, fun r5 v0 v1 => ?_⟩
        simp only [wX]
        by_cases h5 : 0 < r5
        · simp only [h5, decide_true, if_true]
          exact y1 M6 k8
        · simp only [h5, decide_false, Bool.false_eq_true, if_false]
          exact y2 M6 k8
      · have nkw : kp ≠ w := fun e => by subst e; rw [k8 _ _ hk7] at hw; cases hw
        have nlw : l ≠ w := fun e => by subst e; rw [k8 _ _ hl7] at hw; cases hw
        refine ⟨by simp [sizeLine_eq], kp, acc2, _, rfl, rfl, by rw [up_ne nkw]; exact k8 _ _ hk7, ?_, ?_⟩
        · have e1 := len_em em2
          have e2 := congrArg List.length e
          rw [List.length_append, List.length_cons] at e2
          rw [sizeLine_eq]
          omega
        · refine hk _ _ ⟨(k7.trans (k8.trans (.new hw))).put hkp, ?_, ⟨acc2 ++ [.tup [x, .tup ms]], up_same, ?_, fun d hd => ?_⟩, _, rfl⟩
          · rw [up_ne (Ne.symm nlk), up_ne nlw]; exact k8 _ _ hl7
          · rw [List.map_append, em2]; rfl
          · rcases List.mem_append.mp hd with hd | hd
            · exact ha2 d hd
            · obtain rfl := List.mem_singleton.mp hd
              exact ⟨x, ms, rfl, .sub hms⟩
    · obtain ⟨k7, hl7, ⟨acc2, hk7, em2, ha2⟩, v, rfl⟩ := hJ
      rw [List.nil_append] at em2
      simp only [wX]
      refine ⟨_, acc2, rfl, .inr ⟨kp, rfl, hk7⟩, by simp [sizeLine_eq], ?_⟩
      refine h _ s acc acc2 (k4.trans k7) (by omega) (by omega) okr (lists_of (fun x hx => okn.each x (hsub.subset hx)) (ris_sub okn.rise hsub) (by omega) em2 ha2) lacc (by rw [len_em em2]; omega) ⟨rq, fun x hx => okn.q1 x (hsub.subset (by rw [em2] at hx; exact hx))⟩
end DL

set_option Elab.async false
set_option linter.all false
set_option maxRecDepth 100000
set_option maxHeartbeats 4000000
/-! W11: the sets' net is a net. -/
namespace DL
open PySem L2
end DL

set_option Elab.async false
set_option linter.all false
set_option maxRecDepth 100000
set_option maxHeartbeats 4000000
/-! W12a: repr of nets. -/
namespace DL
open PySem L2
theorem tie_repr {nm : Str} {is : List Int} {n : Nat} (hn : nameS nm = true) (hl : is.length ≤ 2) (hi : ∀ i ∈ is, i.natAbs < 100) : (py (tie nm is)).shown.length ≤ 200 ∧ (py (tie nm is)).showable = true := by
  unfold tie
  constructor
  · refine Nat.le_trans (shown_tup (n := 62) fun d hd => ?_) ?_
    · rcases List.mem_cons.mp hd with rfl | hd
      · exact shown_name hn
      · obtain ⟨i, hi', rfl⟩ := List.mem_map.mp hd
        exact Nat.le_trans (shown_int (k := 2) (by decide) (hi i hi')) (by decide)
    · rw [List.length_cons, List.length_map]; omega
  · refine showable_tup fun d hd => ?_
    rcases List.mem_cons.mp hd with rfl | hd
    · exact showable_str _
    · obtain ⟨i, hi', rfl⟩ := List.mem_map.mp hd
      exact showable_int (Nat.lt_trans (hi i hi') (by decide))
theorem ties_repr {knots : Int} {n : Nat} {xs : List D} (h : TiesOk knots n xs) (hn : n ≤ 2) (hk : knots ≤ 60) (hl : xs.length ≤ 700) : (py (.tup xs)).shown.length ≤ 150000 ∧ (py (.tup xs)).showable = true := by
  have q : ∀ d ∈ xs, (py d).shown.length ≤ 200 ∧ (py d).showable = true := fun d hd => by
    obtain ⟨nm, is, rfl, el, hn', hi⟩ := h.each d hd
    exact tie_repr (n := n) hn' (by omega) fun i hi' => by have := hi i hi'; omega
  constructor
  · refine Nat.le_trans (shown_tup (n := 200) fun d hd => (q d hd).1) ?_
    have : xs.length * (200 + 2) ≤ 700 * 202 := Nat.mul_le_mul_right _ hl
    omega
  · exact showable_tup fun d hd => (q d hd).2
theorem NetOk.repr {knots : Int} {ls bs : List D} (h : NetOk knots ls bs) : (py (netT knots ls bs)).shown.length ≤ sizeLine ∧ (py (netT knots ls bs)).showable = true := by
  have h1 := ties_repr h.lk (by decide) h.k1 h.ll
  have h2 := ties_repr h.lb (by decide) h.k1 (by have := h.bl; omega)
  have h3 : (py (.int knots)).shown.length ≤ 150000 ∧ (py (.int knots)).showable = true := by
    have := h.k0
    have := h.k1
    have e : knots.natAbs < 10 ^ 2 := by omega
    exact ⟨Nat.le_trans (shown_int (k := 2) (by decide) e) (by decide), showable_int (Nat.lt_trans e (by decide))⟩
  have q : ∀ d ∈ [D.int knots, .tup ls, .tup bs], (py d).shown.length ≤ 150000 ∧ (py d).showable = true := fun d hd => by
    simp only [List.mem_cons, List.not_mem_nil, or_false] at hd
    rcases hd with rfl | rfl | rfl
    · exact h3
    · exact h1
    · exact h2
  constructor
  · refine Nat.le_trans (shown_tup (n := 150000) fun d hd => (q d hd).1) ?_
    rw [sizeLine_eq]
    simp
  · exact showable_tup fun d hd => (q d hd).2
end DL

set_option Elab.async false
set_option linter.all false
set_option maxRecDepth 100000
set_option maxHeartbeats 4000000
/-! W13: the law's net. -/
namespace DL
open PySem L2
def tkey (nm : Str) (is : List Int) : List Key := .inr nm :: is.map .inl
theorem keyT_tkey (nm : Str) (is : List Int) : keyT (tkey nm is) = tie nm is := by
  unfold keyT tkey tie
  rw [List.map_cons, List.map_map]
  rfl
structure TKeys (names : List D) (many : Int) (n : Nat) (kvs : List (List Key × D)) : Prop where
  nd : (kvs.map Prod.fst).Nodup
  each : ∀ p ∈ kvs, ∃ nm is, p.1 = tkey nm is ∧ is.length = n ∧ .str nm ∈ names ∧ ∀ i ∈ is, 0 ≤ i ∧ i ≤ many - 1
theorem TKeys.nil {names : List D} {many : Int} {n : Nat} : TKeys names many n [] := ⟨.nil, fun p hp => by cases hp⟩
theorem keys_put {κ : Type} [DecidableEq κ] (kvs : List (κ × D)) (k : κ) (d : D) : (putL kvs k d).map Prod.fst = if hasK kvs k = true then kvs.map Prod.fst else kvs.map Prod.fst ++ [k] := by
  unfold putL
  split
  · rw [List.map_map]
    apply List.map_congr_left
    intro p _
    show (if p.1 = k then (p.1, d) else p).1 = p.1
    split <;> rfl
  · rw [List.map_append]; rfl
theorem put_len {κ : Type} [DecidableEq κ] (kvs : List (κ × D)) (k : κ) (d : D) : (putL kvs k d).length ≤ kvs.length + 1 := by
  have h := congrArg List.length (keys_put kvs k d)
  rw [List.length_map] at h
  rw [h]
  split
  · rw [List.length_map]; omega
  · rw [List.length_append, List.length_map]; simp
theorem TKeys.put {names : List D} {many : Int} {n : Nat} {kvs : List (List Key × D)} (h : TKeys names many n kvs) {nm : Str} {is : List Int} {d : D} (hl : is.length = n) (hn : .str nm ∈ names) (hi : ∀ i ∈ is, 0 ≤ i ∧ i ≤ many - 1) : TKeys names many n (putL kvs (tkey nm is) d) := by
  have ek := keys_put kvs (tkey nm is) d
  refine ⟨?_, fun p hp => ?_⟩
  · rw [ek]
    split
    · exact h.nd
    · rename_i q
      refine List.nodup_append.mpr ⟨h.nd, by simp, fun a ha b hb e => ?_⟩
      rw [List.mem_singleton.mp hb] at e
      subst e
      exact q (hasK_iff.mpr ha)
  · have hm : p.1 ∈ (putL kvs (tkey nm is) d).map Prod.fst := List.mem_map_of_mem hp
    rw [ek] at hm
    have old : p.1 ∈ kvs.map Prod.fst → ∃ nm is, p.1 = tkey nm is ∧ is.length = n ∧ .str nm ∈ names ∧ ∀ i ∈ is, 0 ≤ i ∧ i ≤ many - 1 := fun hm => by
      obtain ⟨q, hq, e⟩ := List.mem_map.mp hm
      rw [← e]
      exact h.each q hq
    split at hm
    · exact old hm
    · rcases List.mem_append.mp hm with hm | hm
      · exact old hm
      · rw [List.mem_singleton.mp hm]
        exact ⟨nm, is, rfl, hl, hn, hi⟩
def tiesK (kvs : List (List Key × D)) : List D := kvs.map fun p => keyT p.1
theorem TKeys.tie {names : List D} {many : Int} {n : Nat} {kvs : List (List Key × D)} (h : TKeys names many n kvs) : ∀ x ∈ tiesK kvs, ∃ nm is, x = tie nm is ∧ is.length = n ∧ .str nm ∈ names ∧ ∀ i ∈ is, 0 ≤ i ∧ i ≤ many - 1 := fun x hx => by
  obtain ⟨p, hp, rfl⟩ := List.mem_map.mp hx
  obtain ⟨nm, is, e, r⟩ := h.each p hp
  exact ⟨nm, is, by rw [e, keyT_tkey], r⟩
theorem TKeys.nodup {names : List D} {many : Int} {n : Nat} {kvs : List (List Key × D)} (h : TKeys names many n kvs) : (tiesK kvs).Nodup := by
  unfold tiesK
  have e : (kvs.map fun p => keyT p.1) = (kvs.map Prod.fst).map keyT := by rw [List.map_map]; rfl
  rw [e]
  refine nodup_on h.nd fun a ha b hb q => ?_
  obtain ⟨p, hp, rfl⟩ := List.mem_map.mp ha
  obtain ⟨p', hp', rfl⟩ := List.mem_map.mp hb
  obtain ⟨n1, is, e1, _⟩ := h.each p hp
  obtain ⟨n2, js, e2, _⟩ := h.each p' hp'
  rw [e1, e2, keyT_tkey, keyT_tkey] at q
  rw [e1, e2]
  unfold DL.tie at q
  injection q with q
  injection q with q1 q2
  injection q1 with q1
  rw [q1, (List.map_inj_right (f := D.int) fun a b z => by injection z).mp q2]
theorem TKeys.ok {names : List D} {many : Int} {n : Nat} {kvs : List (List Key × D)} (h : TKeys names many n kvs) (hn : ∀ x ∈ names, isNm x = true) : TiesOk many n (sortD (tiesK kvs)) := by
  refine ⟨fun x hx => ?_, sort_rise (inj_ties fun x hx => let ⟨nm, is, e, _⟩ := h.tie x hx; ⟨nm, is, e⟩) h.nodup⟩
  obtain ⟨nm, is, e, hl, hm, hi⟩ := h.tie x (mem_sort.mp hx)
  exact ⟨nm, is, e, hl, hn _ hm, hi⟩
theorem sortX_ties {names : List D} {many : Int} {n : Nat} {a : Addr} {P : Program} {w : World} {kvs : List (List Key × D)} {M : Mp} {Q : DQ} (h : TKeys names many n kvs) (hz : kvs.length ≤ sizeLine) (ha : M a = some (.dX P w kvs)) (hq : ∀ p, M p = none → Q (.ref p) (up M p (.lst (sortD (tiesK kvs))))) : sortXS [.ref a] M Q := by
  refine ⟨a, P, w, kvs, rfl, ha, fun d hd d' hd' => ?_, fun p hp => ?_, fun p hp => ?_, hz, hq⟩
  · obtain ⟨x, h1, rfl⟩ := List.mem_map.mp hd
    obtain ⟨y, h2, rfl⟩ := List.mem_map.mp hd'
    obtain ⟨nm, is, rfl, _⟩ := h.tie x h1
    obtain ⟨nm', js, rfl, _⟩ := h.tie y h2
    exact (cmpP_tie nm nm' is js).2.2.1
  · obtain ⟨nm, is, e, _⟩ := h.each p hp
    rw [e]
    unfold tkey
    simp
  · obtain ⟨nm, is, e, _⟩ := h.each p hp
    rw [e, keyT_tkey]
    exact Nat.le_trans (dep_tie nm is) (by decide)
/-! ### the law's net -/
/-- a net's values whose names are a home's -/
structure MeshOk (rs ls : List D) (many : Int) (ks bs : List D) : Prop where
  net : NetOk many ks bs
  kn : ∀ x ∈ ks, ∃ nm is, x = tie nm is ∧ .str nm ∈ rs.map nameD
  bn : ∀ x ∈ bs, ∃ nm is, x = tie nm is ∧ .str nm ∈ ls.map nameD
theorem TiesOk.nil {many : Int} {n : Nat} : TiesOk many n [] := ⟨fun x hx => (by cases hx), rfl⟩
theorem MeshOk.nil {rs ls : List D} : MeshOk rs ls 0 [] [] := ⟨⟨by decide, by decide, by decide, by decide, .nil, .nil⟩, fun x hx => (by cases hx), fun x hx => (by cases hx)⟩
theorem names_ok {xs : List D} (hc : ∀ x ∈ xs, called x) : ∀ x ∈ xs.map nameD, isNm x = true := fun x hx => by
  obtain ⟨y, hy, rfl⟩ := List.mem_map.mp hx
  obtain ⟨nm, d, rfl, hn⟩ := hc y hy
  exact hn
theorem lists_good {s : Int} {ls : List D} (h : ListsOk s ls) : plain (.tup ls) = true ∧ lay (.tup ls) ∧ (py (.tup ls)).depth ≤ 64 := by
  have q : ∀ d ∈ ls, plain d = true ∧ lay d ∧ (py d).depth ≤ 3 := fun d hd => by
    obtain ⟨nm, ms, rfl, hn, hm, _⟩ := h.each d hd
    have qm : ∀ e ∈ ms, plain e = true ∧ lay e ∧ (py e).depth ≤ 1 := fun e he => by
      obtain ⟨i, rfl⟩ := isWh_int (hm e he)
      exact ⟨rfl, lay_int i, by simp [py, PyData.depth]⟩
    refine ⟨?_, lay_tup fun e he => ?_, dep_le (n := 2) fun e he => ?_⟩
    · show (plain (.str nm) && (plain (.tup ms) && true)) = true
      have : plain (.tup ms) = true := plains_of fun e he => (qm e he).1
      rw [this]; rfl
    · simp only [List.mem_cons, List.not_mem_nil, or_false] at he
      rcases he with rfl | rfl
      · exact lay_name hn
      · exact lay_tup fun e he => (qm e he).2.1
    · simp only [List.mem_cons, List.not_mem_nil, or_false] at he
      rcases he with rfl | rfl
      · simp [py, PyData.depth]
      · exact dep_le (n := 1) fun e he => (qm e he).2.2
  exact ⟨plains_of fun d hd => (q d hd).1, lay_tup fun d hd => (q d hd).2.1, Nat.le_trans (dep_le (n := 3) fun d hd => (q d hd).2.2) (by decide)⟩
/-- ls != () -/
theorem ne_empty {s : Int} {ls : List D} {M : Mp} {Q : DQ} (h : ListsOk s ls) (q : Q (.bl (!ls.isEmpty)) M) : eqD true (.tup ls) (.tup []) M Q := by
  obtain ⟨g1, g2, g3⟩ := lists_good h
  refine eq_plain g1 rfl (shaped_py g2 g3) (shaped_py (lay_tup fun d hd => by cases hd) (by simp [py, pys, PyData.depth, PyData.depthAll])) ?_
  cases ls with
  | nil => simpa [py, pys, PyData.eqv, PyData.eqvAll] using q
  | cons x xs => simpa [py, pys, PyData.eqv, PyData.eqvAll] using q
def homeT (s : Int) (rs ls : List D) : D := .tup [.int s, .tup rs, .tup ls]
def meshT (many : Int) (ks bs : List D) : D := .tup [.int many, .tup ks, .tup bs]
def S_l_mesh (_ : Cs) : Spec := fun ds M Q => ∃ p s rs ls most ties, ds = [.ref p, homeT s rs ls, .int most, .int ties] ∧ M p = some .pot ∧ RulesOk s rs ∧ ListsOk s ls ∧ 1 ≤ rs.length ∧ 0 ≤ most ∧ most ≤ 60 ∧ 0 ≤ ties ∧ ties ≤ 700 ∧
  ∀ M' many ks bs, Keep M M' → 0 ≤ many → many ≤ most → MeshOk rs ls many ks bs → ks.length ≤ ties.toNat → bs.length ≤ 3 → Q (meshT many ks bs) M'
abbrev N_l_mesh : List Str := ["_law_pot_here", "_law_home_here", "_law_most", "_law_ties", "_law_turn", "_law_many", "_law_found", "_law_named", "_law_rule", "_law_one", "_law_far_one"]
def ir_l_mesh (c : Cs) : Ss := (.cons (.par3 5 6 7 (.cons (.call "_law_take" (S_l_take c) (.cons (.var 0) (.cons (.bin .Add (.var 2) (.int 1)) .nil))) (.cons (.dnew (.t c.P c.w)) (.cons (.dnew (.t c.P c.w)) .nil)))) (.cons (.ife (.cmp .Eq (.var 5) (.int 0)) (.cons (.ret (.tup (.cons (.int 0) (.cons (.tup .nil) (.cons (.tup .nil) .nil))))) .nil) .nil) (.cons (.for_ (.name 4) (.r1 (.call "_law_take" (S_l_take c) (.cons (.var 0) (.cons (.bin .Add (.var 3) (.int 1)) .nil)))) (.cons (.asg (.name 8) (.idx (.call "_law_of" (S_l_of c) (.cons (.var 0) (.cons (.bcall .list (.cons (.idx (.var 1) (.int 1)) .nil)) .nil))) (.int 0))) (.cons (.asg (.name 9) (.call "_law_take" (S_l_take c) (.cons (.var 0) (.cons (.var 5) .nil)))) (.cons (.asg (.name 10) (.call "_law_of" (S_l_of c) (.cons (.var 0) (.cons (.lst (.cons (.bin .Mod (.bin .Add (.var 9) (.int 1)) (.var 5)) (.cons (.call "_law_take" (S_l_take c) (.cons (.var 0) (.cons (.var 5) .nil))) .nil))) .nil)))) (.cons (.setK (.t c.P c.w) (.var 6) (.tup (.cons (.var 8) (.cons (.var 9) (.cons (.var 10) .nil)))) (.bl true)) .nil))))) (.cons (.for_ (.name 4) (.r1 (.bin .Mult (.call "_law_take" (S_l_take c) (.cons (.var 0) (.cons (.int 4) .nil))) (.bcall .int (.cons (.cmp .NotEq (.idx (.var 1) (.int 2)) (.tup .nil)) .nil)))) (.cons (.setK (.t c.P c.w) (.var 7) (.tup (.cons (.idx (.call "_law_of" (S_l_of c) (.cons (.var 0) (.cons (.bcall .list (.cons (.idx (.var 1) (.int 2)) .nil)) .nil))) (.int 0)) (.cons (.call "_law_take" (S_l_take c) (.cons (.var 0) (.cons (.var 5) .nil))) .nil))) (.bl true)) .nil)) (.cons (.ret (.tup (.cons (.var 5) (.cons (.bcall .tuple (.cons (.sortX (.var 6)) .nil)) (.cons (.bcall .tuple (.cons (.sortX (.var 7)) .nil)) .nil))))) .nil)))))
theorem wp_l_mesh (c : Cs) {p : Addr} {s most ties : Int} {rs ls : List D} {M : Mp} {Q : DQ} (hp : M p = some .pot) (okr : RulesOk s rs) (okl : ListsOk s ls) (r1 : 1 ≤ rs.length) (m0 : 0 ≤ most) (m1 : most ≤ 60) (t0 : 0 ≤ ties) (t1 : ties ≤ 700)
    (h : ∀ M' many ks bs, Keep M M' → 0 ≤ many → many ≤ most → MeshOk rs ls many ks bs → ks.length ≤ ties.toNat → bs.length ≤ 3 → Q (meshT many ks bs) M') :
    (ir_l_mesh c).wp (bodyEnds Q) [some (.ref p), some (homeT s rs ls), some (.int most), some (.int ties), none, none, none, none, none, none, none] M := by
  simp only [wX, ir_l_mesh, homeT]
  refine ⟨p, most + 1, rfl, hp, by omega, by omega, fun many n0 n1 => ?_⟩
  intro fp hfp np hnp
  refine ⟨_, _, _, rfl, ?_⟩
  simp only [wX]
  have nfn : fp ≠ np := fun z => by subst z; rw [up_same] at hnp; cases hnp
  have hnp' : M np = none := by rw [up_ne (Ne.symm nfn)] at hnp; exact hnp
  have k0 : Keep M (up (up M fp (.dX c.P c.w [])) np (.dX c.P c.w [])) := (Keep.new hfp).trans (.new hnp)
  have ef : up (up M fp (.dX c.P c.w [])) np (.dX c.P c.w []) fp = some (.dX c.P c.w []) := by rw [up_ne nfn]; exact up_same
  have en : up (up M fp (.dX c.P c.w [])) np (.dX c.P c.w []) np = some (.dX c.P c.w []) := up_same
  generalize up (up M fp (.dX c.P c.w [])) np (.dX c.P c.w []) = M0 at k0 ef en ⊢
  by_cases hm : many = 0
  · subst hm
    simp only [decide_true, if_true]
    exact ⟨by simp [sizeLine_eq], by simp [sizeLine_eq], by simp [sizeLine_eq], h M0 0 [] [] k0 (by decide) m0 .nil (by simp) (by simp)⟩
  simp only [hm, decide_false, Bool.false_eq_true, if_false]
  refine ⟨p, ties + 1, rfl, k0 _ _ hp, by omega, by omega, fun r r0 r1' => ⟨r, rfl, by unfold small62; omega, ?_⟩⟩
  have zr : (rngI 0 r).length ≤ ties.toNat := by rw [rng_len]; omega
  refine forGo_pos (T := ⟨rngI 0 r, fun _ => True⟩) (fun done ρ M2 => Keep M M2 ∧ (∃ kvs, M2 fp = some (.dX c.P c.w kvs) ∧ TKeys (rs.map nameD) many 2 kvs ∧ kvs.length ≤ done.length) ∧ M2 np = some (.dX c.P c.w []) ∧
    ∃ v4 v8 v9 v10, ρ = [some (.ref p), some (.tup [.int s, .tup rs, .tup ls]), some (.int most), some (.int ties), v4, some (.int many), some (.ref fp), some (.ref np), v8, v9, v10]) (fun _ _ _ _ => trivial) (rngI 0 r) [] _ M0 ⟨k0, ⟨[], ef, .nil, by simp⟩, en, _, _, _, _, rfl⟩ (fun x pre post e ρ M2 k hJ hk => ?_) fun ρ M2 hJ => ?_
  · obtain ⟨k2, ⟨kvs, hf, tk, lk⟩, hn2, v4, v8, v9, v10, rfl⟩ := hJ
    rw [List.nil_append] at lk hk
    refine ⟨_, rfl, ?_⟩
    simp only [wX]
    refine .inl ⟨_, rs, rfl, .inl rfl, fun l hl => ⟨p, l, rs, rfl, Keep.new hl _ _ (k2 _ _ hp), up_same, fun z => by rw [z] at r1; simp at r1, by have := okr.len; omega, fun y hy => ?_⟩⟩
    obtain ⟨nm, prs, rfl, hnm, _⟩ := okr.each y hy
    have k3 : Keep M2 (up M2 l (.lst rs)) := .new hl
    generalize up M2 l (.lst rs) = M3 at k3 ⊢
    simp only [wX]
    refine ⟨p, many, rfl, k3 _ _ (k2 _ _ hp), by omega, by omega, fun one o0 o1 => ?_⟩
    simp only [wX]
    refine ⟨by omega, p, many, rfl, k3 _ _ (k2 _ _ hp), by omega, by omega, fun two u0 u1 => ?_⟩
    refine ⟨by simp [sizeLine_eq], fun l2 hl2 => ⟨p, l2, _, rfl, Keep.new hl2 _ _ (k3 _ _ (k2 _ _ hp)), up_same, by simp, by simp, fun y2 hy2 => ?_⟩⟩
    obtain ⟨far, rfl, f0, f1⟩ : ∃ far : Int, y2 = .int far ∧ 0 ≤ far ∧ far < many := by
      simp only [List.mem_cons, List.not_mem_nil, or_false] at hy2
      rcases hy2 with rfl | rfl
      · exact ⟨_, rfl, Int.emod_nonneg _ (by omega), Int.emod_lt_of_pos _ (by omega)⟩
      · exact ⟨_, rfl, u0, u1⟩
    have k4 : Keep M2 (up M3 l2 (.lst [D.int ((one + 1) % many), D.int two])) := k3.trans (.new hl2)
    have zk : kvs.length ≤ 700 := by
      have := congrArg List.length e
      rw [List.length_append, List.length_cons] at this
      omega
    refine ⟨by simp [sizeLine_eq], _, k4 _ _ hf, ⟨kvs, rfl⟩, by show kvs.length < sizeLine; rw [sizeLine_eq]; omega, .dX c.P c.w (putL kvs (tkey nm [one, far]) (.bl true)), rfl, hk _ _ ⟨(k2.trans k4).put hfp, ⟨_, up_same, tk.put rfl (List.mem_map.mpr ⟨_, hy, rfl⟩) fun i hi => ?_, ?_⟩, ?_, _, _, _, _, rfl⟩⟩
    · simp only [List.mem_cons, List.not_mem_nil, or_false] at hi
      rcases hi with rfl | rfl <;> omega
    · have := put_len kvs (tkey nm [one, far]) (.bl true)
      rw [List.length_append, List.length_singleton]
      omega
    · rw [up_ne (Ne.symm nfn)]; exact k4 _ _ hn2
  · obtain ⟨k2, ⟨kvs, hf, tk, lk⟩, hn2, v4, v8, v9, v10, rfl⟩ := hJ
    rw [List.nil_append] at lk
    simp only [wX]
    refine ⟨p, 4, rfl, k2 _ _ hp, by decide, by decide, fun r4 w0 w1 => ⟨by simp [sizeLine_eq], ne_empty okl ?_⟩⟩
    simp only [wX]
    generalize hn : r4 * (if (!ls.isEmpty) = true then (1 : Int) else 0) = n2
    have hn3 : n2 ≤ 3 := by rw [← hn]; split <;> omega
    have hn0 : 0 ≤ n2 := by rw [← hn]; split <;> omega
    have hne : 0 < n2 → ls ≠ [] := fun z q => by subst q; simp at hn; omega
    refine ⟨.inr (by split <;> exact ⟨by decide, by decide⟩), by unfold small62; omega, ?_⟩
    have zk : kvs.length ≤ 700 := by omega
    have okk : TiesOk many 2 (sortD (tiesK kvs)) := tk.ok (names_ok okr.called)
    refine forGo_pos (T := ⟨rngI 0 n2, fun _ => True⟩) (fun done ρ M3 => Keep M M3 ∧ M3 fp = some (.dX c.P c.w kvs) ∧ (∃ lvs, M3 np = some (.dX c.P c.w lvs) ∧ TKeys (ls.map nameD) many 1 lvs ∧ lvs.length ≤ done.length) ∧
      ∃ v4, ρ = [some (.ref p), some (.tup [.int s, .tup rs, .tup ls]), some (.int most), some (.int ties), v4, some (.int many), some (.ref fp), some (.ref np), v8, v9, v10]) (fun _ _ _ _ => trivial) (rngI 0 n2) [] _ M2 ⟨k2, hf, ⟨[], hn2, .nil, by simp⟩, _, rfl⟩ (fun x pre post e ρ M3 k hJ hk => ?_) fun ρ M3 hJ => ?_
    · obtain ⟨k3, hf3, ⟨lvs, hn3', tl, ll⟩, v4', rfl⟩ := hJ
      rw [List.nil_append] at ll hk
      have hpos : 0 < n2 := by
        obtain ⟨i, _, i0, i1⟩ := rng_mem (x := x) (n := n2) (by rw [e]; simp)
        omega
      refine ⟨_, rfl, ?_⟩
      simp only [wX]
      refine .inl ⟨_, ls, rfl, .inl rfl, fun l hl => ⟨p, l, ls, rfl, Keep.new hl _ _ (k3 _ _ hp), up_same, hne hpos, by have := okl.len; omega, fun y hy => ?_⟩⟩
      obtain ⟨nm, ms, rfl, hnm, _⟩ := okl.each y hy
      have k4 : Keep M3 (up M3 l (.lst ls)) := .new hl
      generalize up M3 l (.lst ls) = M4 at k4 ⊢
      simp only [wX]
      refine ⟨p, many, rfl, k4 _ _ (k3 _ _ hp), by omega, by omega, fun one o0 o1 => ?_⟩
      have zl : lvs.length ≤ 3 := by
        have := congrArg List.length e
        rw [List.length_append, List.length_cons, rng_len] at this
        omega
      refine ⟨by simp [sizeLine_eq], _, k4 _ _ hn3', ⟨lvs, rfl⟩, by show lvs.length < sizeLine; rw [sizeLine_eq]; omega, .dX c.P c.w (putL lvs (tkey nm [one]) (.bl true)), rfl, hk _ _ ⟨(k3.trans k4).put hnp', ?_, ⟨_, up_same, tl.put rfl (List.mem_map.mpr ⟨_, hy, rfl⟩) fun i hi => ?_, ?_⟩, _, rfl⟩⟩
      · rw [up_ne nfn]; exact k4 _ _ hf3
      · rw [List.mem_singleton.mp hi]; omega
      · have := put_len lvs (tkey nm [one]) (.bl true)
        rw [List.length_append, List.length_singleton]
        omega
    · obtain ⟨k3, hf3, ⟨lvs, hn3', tl, ll⟩, v4', rfl⟩ := hJ
      rw [List.nil_append, rng_len] at ll
      have zl : lvs.length ≤ 3 := by omega
      have okl' : TiesOk many 1 (sortD (tiesK lvs)) := tl.ok (names_ok okl.called)
      simp only [wX]
      refine sortX_ties tk (by rw [sizeLine_eq]; omega) hf3 fun a1 ha1 => ?_
      simp only [wX]
      refine sortX_ties tl (by rw [sizeLine_eq]; omega) (Keep.new ha1 _ _ hn3') fun a2 ha2 => ?_
      simp only [wX]
      have e1 : (sortD (tiesK kvs)).length = kvs.length := by rw [len_sort]; unfold tiesK; rw [List.length_map]
      have e2 : (sortD (tiesK lvs)).length = lvs.length := by rw [len_sort]; unfold tiesK; rw [List.length_map]
      refine ⟨by simp [sizeLine_eq], h _ many _ _ (k3.trans ((Keep.new ha1).trans (.new ha2))) n0 (by omega) ⟨⟨n0, by omega, by omega, by omega, okk, okl'⟩, fun x hx => ?_, fun x hx => ?_⟩ (by rw [e1]; omega) (by omega)⟩
      · obtain ⟨nm, is, e, _, hm, _⟩ := tk.tie x (mem_sort.mp hx)
        exact ⟨nm, is, e, hm⟩
      · obtain ⟨nm, is, e, _, hm, _⟩ := tl.tie x (mem_sort.mp hx)
        exact ⟨nm, is, e, hm⟩
end DL

set_option Elab.async false
set_option linter.all false
set_option maxRecDepth 100000
set_option maxHeartbeats 4000000
/-! W14: what goes and what is listed; fillings. -/
namespace DL
open PySem L2
/-- a mark may stand ahead of another one by a rule; a mark is in a list -/
def Go_ (rs : List D) (nm : Str) (i j : Int) : Prop := ∃ prs, D.tup [.str nm, .tup prs] ∈ rs ∧ D.tup [.int i, .int j] ∈ prs
def Li_ (ls : List D) (nm : Str) (i : Int) : Prop := ∃ ms, D.tup [.str nm, .tup ms] ∈ ls ∧ D.int i ∈ ms
open Classical in
noncomputable def goB (rs : List D) (nm : Str) (i j : Int) : Bool := decide (Go_ rs nm i j)
open Classical in
noncomputable def liB (ls : List D) (nm : Str) (i : Int) : Bool := decide (Li_ ls nm i)
/-! ### goes, is_listed -/
/-! ### marks beside a lot -/
def marksT (l : List Int) : D := .tup (l.map D.int)
theorem HouseAt.ins {c : Cs} {M : Mp} {hh : Addr} {n : Int} {rs ls : List D} (h : HouseAt c M hh n rs ls) : ∃ p q, M hh = some (.ins c.House (houseL (.int n) (.tup rs) (.tup ls) p q)) := by
  obtain ⟨d1, d2, kv1, kv2, e0, _⟩ := h
  exact ⟨_, _, e0⟩
end DL

set_option Elab.async false
set_option linter.all false
set_option maxRecDepth 100000
set_option maxHeartbeats 4000000
/-! W15: fillings. -/
namespace DL
open PySem L2
abbrev Lk := Str × Nat × Nat
abbrev Lb := Str × Nat
def lkD (l : Lk) : D := .tup [.str l.1, .int (l.2.1 : Int), .int (l.2.2 : Int)]
def lbD (b : Lb) : D := .tup [.str b.1, .int (b.2 : Int)]
structure Tied (rs ls : List D) (k : Nat) (lks : List Lk) (lbs : List Lb) : Prop where
  kn : ∀ l ∈ lks, .str l.1 ∈ rs.map nameD ∧ l.2.1 < k ∧ l.2.2 < k
  bn : ∀ b ∈ lbs, .str b.1 ∈ ls.map nameD ∧ b.2 < k
  zl : lks.length ≤ 700
  zb : lbs.length ≤ 400
  zk : k ≤ 60
def NetAt (c : Cs) (M : Mp) (nn : Addr) (k : Nat) (lks : List Lk) (lbs : List Lb) : Prop := M nn = some (.ins c.Net (netF (.int (k : Int)) (.tup (lks.map lkD)) (.tup (lbs.map lbD))))
theorem NetAt.keep {c : Cs} {M M' : Mp} {nn : Addr} {k : Nat} {lks : List Lk} {lbs : List Lb} (h : NetAt c M nn k lks lbs) (kp : Keep M M') : NetAt c M' nn k lks lbs := kp _ _ h
/-- a house and a net that go together -/
structure Both (c : Cs) (M : Mp) (hh nn : Addr) (n : Nat) (rs ls : List D) (k : Nat) (lks : List Lk) (lbs : List Lb) : Prop where
  h : HouseAt c M hh n rs ls
  r : RulesOk n rs
  l : ListsOk n ls
  w : NetAt c M nn k lks lbs
  t : Tied rs ls k lks lbs
theorem Both.keep {c : Cs} {M M' : Mp} {hh nn : Addr} {n : Nat} {rs ls : List D} {k : Nat} {lks : List Lk} {lbs : List Lb} (b : Both c M hh nn n rs ls k lks lbs) (kp : Keep M M') : Both c M' hh nn n rs ls k lks lbs := ⟨b.h.keep kp, b.r, b.l, b.w.keep kp, b.t⟩
/-! ### two generators -/
/-! ### all fillings -/
end DL

set_option Elab.async false
set_option linter.all false
set_option maxRecDepth 100000
set_option maxHeartbeats 4000000
/-! W16: is a thing a filling; do lots hold together. -/
namespace DL
open PySem L2
/-! ### lots -/
structure LotsOk (n k : Nat) (L : List (List Int)) : Prop where
  len : L.length = k
  each : ∀ l ∈ L, ∀ x ∈ l, 0 ≤ x ∧ x < (n : Int)
  rise : ∀ l ∈ L, l.Pairwise (· < ·)
noncomputable def linkB (rs : List D) (L : List (List Int)) (l : Lk) : Bool := (L.getD l.2.1 []).all (fun m => (L.getD l.2.2 []).any fun j => goB rs l.1 m j) && (L.getD l.2.2 []).all fun m => (L.getD l.2.1 []).any fun j => goB rs l.1 j m
noncomputable def labB (ls : List D) (L : List (List Int)) (b : Lb) : Bool := (L.getD b.2 []).all fun m => liB ls b.1 m
noncomputable def holdB (rs ls : List D) (lks : List Lk) (lbs : List Lb) (L : List (List Int)) : Bool := lbs.all (labB ls L) && lks.all (linkB rs L)
theorem lb_inj {a b : Lb} (h : lbD a = lbD b) : a = b := by
  obtain ⟨a1, a2⟩ := a
  obtain ⟨b1, b2⟩ := b
  unfold lbD at h
  simp at h
  obtain ⟨h1, h2⟩ := h
  rw [h1, Int.ofNat_inj.mp h2]
theorem lk_inj {a b : Lk} (h : lkD a = lkD b) : a = b := by
  obtain ⟨a1, a2, a3⟩ := a
  obtain ⟨b1, b2, b3⟩ := b
  unfold lkD at h
  simp at h
  obtain ⟨h1, h2, h3⟩ := h
  rw [h1, Int.ofNat_inj.mp h2, Int.ofNat_inj.mp h3]
end DL

set_option Elab.async false
set_option linter.all false
set_option maxRecDepth 100000
set_option maxHeartbeats 4000000
/-! W17: links in line. -/
namespace DL
open PySem L2
def keyL (l : Lk) : List Key := [.inr l.1, .inl (l.2.1 : Int), .inl (l.2.2 : Int)]
/-- the links in line, and the same as keys -/
structure LineAt (c : Cs) (M : Mp) (wd ln : Addr) (line : List Lk) : Prop where
  ne : wd ≠ ln
  w : ∃ kvs, M wd = some (.dX c.P c.w kvs) ∧ (kvs.map Prod.fst).Perm (line.map keyL)
  l : M ln = some (.lst (line.map lkD))
  nd : line.Nodup
/-! ### the links at each knot -/
structure KnotsAt (M0 M : Mp) (q : Addr) (k : Nat) (lks : List Lk) (as : List Addr) (cont : Nat → List Lk) : Prop where
  f : M q = some (.lst (as.map D.ref))
  len : as.length = k
  new : ∀ a ∈ as, M0 a = none ∧ a ≠ q
  at_ : ∀ i a, as[i]? = some a → M a = some (.lst ((cont i).map lkD))
  sub : ∀ i, ∀ l ∈ cont i, l ∈ lks
  z : ∀ i, (cont i).length ≤ 1400
theorem Keep.over {M M' : Mp} {a : Addr} {o : MO} (k : Keep M M') (h : M a = Option.none) : Keep M (up M' a o) := fun b u e => by
  rw [up_ne (fun z => by subst z; rw [h] at e; cases e)]
  exact k b u e
end DL

set_option Elab.async false
set_option linter.all false
set_option maxRecDepth 100000
set_option maxHeartbeats 4000000
/-! W18: the greatest lots, plainly. -/
namespace DL
open PySem L2
section
variable {rs ls : List D} {lks : List Lk} {lbs : List Lb}
abbrev Lots := List (List Int)
def lot (L : Lots) (i : Nat) : List Int := L.getD i []
theorem lot_set {L : Lots} {i j : Nat} {x : List Int} (h : i < L.length) : lot (L.set i x) j = if j = i then x else lot L j := by
  unfold lot
  rw [List.getD_eq_getElem?_getD, List.getD_eq_getElem?_getD, List.getElem?_set]
  by_cases e : i = j
  · subst e; simp [h]
  · have e' : ¬ j = i := fun z => e z.symm
    simp [e, e']
/-- a link is kept by lots -/
def LinkOk (rs : List D) (L : Lots) (l : Lk) : Prop := (∀ m ∈ lot L l.2.1, ∃ j ∈ lot L l.2.2, goB rs l.1 m j = true) ∧ ∀ m ∈ lot L l.2.2, ∃ j ∈ lot L l.2.1, goB rs l.1 j m = true
def LabOk (ls : List D) (L : Lots) (b : Lb) : Prop := ∀ m ∈ lot L b.2, liB ls b.1 m = true
/-- lots within lots -/
def In (L B : Lots) : Prop := ∀ i, ∀ x ∈ lot L i, x ∈ lot B i
/-- the greatest lots within B that hold together -/
structure Great (rs ls : List D) (lks : List Lk) (lbs : List Lb) (B L : Lots) : Prop where
  len : L.length = B.length
  sub : ∀ i, (lot L i).Sublist (lot B i)
  hold : holdB rs ls lks lbs L = true
  most : ∀ L', In L' B → holdB rs ls lks lbs L' = true → In L' L
/-- the work's state: lots, links in line, links in hand -/
structure Log (rs ls : List D) (lks : List Lk) (lbs : List Lb) (ex : Lk → Prop) (B cur : Lots) (line : List Lk) : Prop where
  len : cur.length = B.length
  sub : ∀ i, (lot cur i).Sublist (lot B i)
  lab : ∀ b ∈ lbs, LabOk ls cur b
  lk : ∀ l ∈ lks, l ∉ line → ¬ ex l → LinkOk rs cur l
  inl : ∀ l ∈ line, l ∈ lks
  most : ∀ L', In L' B → holdB rs ls lks lbs L' = true → In L' cur
theorem In.set {cur L' : Lots} {i : Nat} {x : List Int} (h : In L' cur) (hi : i < cur.length) (hx : ∀ y ∈ lot L' i, y ∈ x) : In L' (cur.set i x) := fun k y hy => by
  rw [lot_set hi]
  by_cases e : k = i
  · subst e; rw [if_pos rfl]; exact hx y hy
  · rw [if_neg e]; exact h k y hy
end
end DL

set_option Elab.async false
set_option linter.all false
set_option maxRecDepth 100000
set_option maxHeartbeats 4000000
/-! W19: narrowed. -/
namespace DL
open PySem L2
/-- the lots in hand: a list of lists -/
structure LeftAt (M0 M : Mp) (lf : Addr) (as : List Addr) (cur : Lots) : Prop where
  f0 : M0 lf = none
  f : M lf = some (.lst (as.map D.ref))
  len : as.length = cur.length
  new : ∀ a ∈ as, a ≠ lf
  at_ : ∀ i a, as[i]? = some a → M a = some (.lst ((lot cur i).map D.int))
  as0 : ∀ a ∈ as, M0 a = none
theorem LeftAt.keep {M0 M M' : Mp} {lf : Addr} {as : List Addr} {cur : Lots} (h : LeftAt M0 M lf as cur) (k : Keep M M') : LeftAt M0 M' lf as cur := ⟨h.f0, k _ _ h.f, h.len, h.new, fun i a e => k _ _ (h.at_ i a e), h.as0⟩
theorem LeftAt.put {M0 M : Mp} {lf p : Addr} {as : List Addr} {cur : Lots} {x : List Int} {i : Nat} (h : LeftAt M0 M lf as cur) (hi : i < cur.length) (hp : M p = some (.lst (x.map D.int))) (ne : p ≠ lf) (h0 : M0 p = none) : LeftAt M0 (up M lf (.lst ((as.set i p).map D.ref))) lf (as.set i p) (cur.set i x) := by
  refine ⟨h.f0, up_same, by rw [List.length_set, List.length_set]; exact h.len, fun a ha => ?_, fun j a e => ?_, fun a ha => ?_⟩
  · rcases List.mem_or_eq_of_mem_set ha with ha | rfl
    · exact h.new a ha
    · exact ne
  · rw [List.getElem?_set] at e
    rw [lot_set hi]
    by_cases q : i = j
    · subst q
      rw [if_pos rfl, if_pos (by rw [h.len]; exact hi)] at e
      cases e
      rw [if_pos rfl, up_ne ne]
      exact hp
    · rw [if_neg q] at e
      rw [if_neg (fun z => q z.symm), up_ne (h.new a (List.mem_of_getElem? e))]
      exact h.at_ j a e
  · rcases List.mem_or_eq_of_mem_set ha with ha | rfl
    · exact h.as0 a ha
    · exact h0
/-- where the work stands in the heap -/
structure NSt (c : Cs) (M0 M : Mp) (lf ak wd ln : Addr) (k : Nat) (kas : List Addr) (cont : Nat → List Lk) (as : List Addr) (cur : Lots) (line : List Lk) : Prop where
  kp : Keep M0 M
  L : LeftAt M0 M lf as cur
  aln : ∀ a ∈ as, a ≠ ln
  ne : lf ≠ ln
  wd0 : M0 wd = none
  ln0 : M0 ln = none
  kf : M ak = some (.lst (kas.map D.ref))
  kl : kas.length = k
  ka : ∀ i a, kas[i]? = some a → M a = some (.lst ((cont i).map lkD)) ∧ a ≠ lf ∧ a ≠ ln
  akl : ak ≠ lf ∧ ak ≠ ln
  W : LineAt c M wd ln line
theorem NSt.keep {c : Cs} {M0 M M' : Mp} {lf ak wd ln : Addr} {k : Nat} {kas as : List Addr} {cont : Nat → List Lk} {cur : Lots} {line : List Lk} (s : NSt c M0 M lf ak wd ln k kas cont as cur line) (kp : Keep M M') : NSt c M0 M' lf ak wd ln k kas cont as cur line := by
  obtain ⟨kvs, w1, w2⟩ := s.W.w
  exact ⟨s.kp.trans kp, s.L.keep kp, s.aln, s.ne, s.wd0, s.ln0, kp _ _ s.kf, s.kl, fun i a e => ⟨kp _ _ (s.ka i a e).1, (s.ka i a e).2⟩, s.akl, ⟨s.W.ne, ⟨kvs, kp _ _ w1, w2⟩, kp _ _ s.W.l, s.W.nd⟩⟩
theorem NSt.wdne {c : Cs} {M0 M : Mp} {lf ak wd ln : Addr} {k : Nat} {kas as : List Addr} {cont : Nat → List Lk} {cur : Lots} {line : List Lk} (s : NSt c M0 M lf ak wd ln k kas cont as cur line) {a : Addr} {ds : List D} (h : M a = some (.lst ds)) : a ≠ wd := fun e => by
  obtain ⟨kvs, w1, w2⟩ := s.W.w
  subst e
  rw [w1] at h
  cases h
/-- a lot laid anew -/
theorem NSt.put {c : Cs} {M0 M : Mp} {lf ak wd ln p : Addr} {k : Nat} {kas as : List Addr} {cont : Nat → List Lk} {cur : Lots} {line : List Lk} {x : List Int} {i : Nat} (s : NSt c M0 M lf ak wd ln k kas cont as cur line) (hi : i < cur.length) (hp : M p = some (.lst (x.map D.int))) (n1 : p ≠ lf) (n2 : p ≠ ln) (h0 : M0 p = none) :
    NSt c M0 (up M lf (.lst ((as.set i p).map D.ref))) lf ak wd ln k kas cont (as.set i p) (cur.set i x) line := by
  obtain ⟨kvs, w1, w2⟩ := s.W.w
  have hw := s.wdne s.L.f
  refine ⟨s.kp.over s.L.f0, s.L.put hi hp n1 h0, fun a ha => ?_, s.ne, s.wd0, s.ln0, by rw [up_ne s.akl.1]; exact s.kf, s.kl, fun j a e => ⟨by rw [up_ne (s.ka j a e).2.1]; exact (s.ka j a e).1, (s.ka j a e).2⟩, s.akl, ⟨s.W.ne, ⟨kvs, by rw [up_ne (Ne.symm hw)]; exact w1, w2⟩, by rw [up_ne (Ne.symm s.ne)]; exact s.W.l, s.W.nd⟩⟩
  rcases List.mem_or_eq_of_mem_set ha with ha | rfl
  · exact s.aln a ha
  · exact n2
def S.body : S → Ss
  | .while_ _ b => b
  | .for_ _ _ b => b
  | _ => .nil
end DL

set_option Elab.async false
set_option linter.all false
set_option maxRecDepth 100000
set_option maxHeartbeats 4000000
/-! W20: lots. -/
namespace DL
open PySem L2
def allM (n : Nat) : List Int := (List.range n).map fun x => ((x : Nat) : Int)
end DL

set_option Elab.async false
set_option linter.all false
set_option maxRecDepth 100000
set_option maxHeartbeats 4000000
/-! W21: a house built, a net woven, fillings put together. -/
namespace DL
open PySem L2
def S_House_K1_rules_lists (c : Cs) : Spec := makeS c.House (S_House_init c) id
def S_l_built (c : Cs) : Spec := fun ds M Q => ∃ s rs ls, ds = [homeT s rs ls] ∧ 1 ≤ s ∧ s ≤ 4 ∧ RulesOk s rs ∧ ListsOk s ls ∧ ∀ M' t, Keep M M' → M t = none → HouseAt c M' t s rs ls → Q (.ref t) M'
abbrev N_l_built : List Str := ["_law_home_here"]
def ir_l_built (c : Cs) : Ss := (.cons (.ret (.callK "House" (S_House_K1_rules_lists c) (.cons (.idx (.var 0) (.int 0)) .nil) ["rules", "lists"] (.cons (.idx (.var 0) (.int 1)) (.cons (.idx (.var 0) (.int 2)) .nil)))) .nil)
theorem wp_l_built (c : Cs) {s : Int} {rs ls : List D} {M : Mp} {Q : DQ} (h0 : 1 ≤ s) (h4 : s ≤ 4) (okr : RulesOk s rs) (okl : ListsOk s ls) (h : ∀ M' t, Keep M M' → M t = none → HouseAt c M' t s rs ls → Q (.ref t) M') : (ir_l_built c).wp (bodyEnds Q) [some (homeT s rs ls)] M := by
  simp only [wX, ir_l_built, homeT]
  intro x hx
  refine ⟨x, s, rs, ls, rfl, up_same, h0, h4, okr, okl, fun M5 d1 d2 kk hx5 hat => ⟨rfl, h M5 x (fun a o e => ?_) hx hat⟩⟩
  have nx : a ≠ x := fun z => by subst z; rw [e] at hx; cases hx
  exact kk a o nx (by rw [up_ne nx]; exact e)
def S_l_woven (c : Cs) : Spec := fun ds M Q => ∃ n ks bs, ds = [meshT n ks bs] ∧ NetOk n ks bs ∧ ∀ M' t, Keep M M' → M t = none → M' t = some (.ins c.Net (netF (.int n) (.tup ks) (.tup bs))) → Q (.ref t) M'
abbrev N_l_woven : List Str := ["_law_mesh_here"]
def ir_l_woven (c : Cs) : Ss := (.cons (.ret (.callK "Net" (S_Net_K1_links_labels c) (.cons (.idx (.var 0) (.int 0)) .nil) ["links", "labels"] (.cons (.idx (.var 0) (.int 1)) (.cons (.idx (.var 0) (.int 2)) .nil)))) .nil)
theorem wp_l_woven (c : Cs) {n : Int} {ks bs : List D} {M : Mp} {Q : DQ} (ok : NetOk n ks bs) (h : ∀ M' t, Keep M M' → M t = none → M' t = some (.ins c.Net (netF (.int n) (.tup ks) (.tup bs))) → Q (.ref t) M') : (ir_l_woven c).wp (bodyEnds Q) [some (meshT n ks bs)] M := by
  simp only [wX, ir_l_woven, meshT]
  intro y hy
  refine ⟨y, n, _, _, rfl, up_same, ok, fun M8 kk8 hy8 => ⟨rfl, h M8 y (fun a o e => ?_) hy hy8⟩⟩
  have ny : a ≠ y := fun z => by subst z; rw [e] at hy; cases hy
  exact kk8 a o ny (by rw [up_ne ny]; exact e)
/-! ### columns -/
structure ColsAt (M0 M : Mp) (q : Addr) (k : Nat) (as : List Addr) (cont : Nat → List Int) : Prop where
  f : M q = some (.lst (as.map D.ref))
  len : as.length = k
  new : ∀ a ∈ as, M0 a = none ∧ a ≠ q
  at_ : ∀ i a, as[i]? = some a → M a = some (.lst ((cont i).map D.int))
end DL

set_option Elab.async false
set_option linter.all false
set_option maxRecDepth 100000
set_option maxHeartbeats 4000000
/-! W21b: meshes as data, fillings put together, what laws share. -/
namespace DL
open PySem L2
/-! ### a mesh as data -/
theorem links_data {rs : List D} {k : Nat} : ∀ {ks : List D}, (∀ x ∈ ks, ∃ nm is, x = tie nm is ∧ is.length = 2 ∧ nameS nm = true ∧ ∀ i ∈ is, 0 ≤ i ∧ i ≤ (k : Int) - 1) → (∀ x ∈ ks, ∃ nm is, x = tie nm is ∧ .str nm ∈ rs.map nameD) →
    ∃ lks : List Lk, ks = lks.map lkD ∧ ∀ l ∈ lks, .str l.1 ∈ rs.map nameD ∧ l.2.1 < k ∧ l.2.2 < k
  | [], _, _ => ⟨[], rfl, fun l hl => (nomatch hl)⟩
  | x :: ks, h1, h2 => by
    obtain ⟨lks, e, hh⟩ := links_data (fun y hy => h1 y (List.mem_cons_of_mem _ hy)) fun y hy => h2 y (List.mem_cons_of_mem _ hy)
    obtain ⟨nm, is, rfl, hl, _, hi⟩ := h1 x List.mem_cons_self
    obtain ⟨nm', is', e', hn⟩ := h2 _ List.mem_cons_self
    unfold tie at e'
    simp only [D.tup.injEq, List.cons.injEq, D.str.injEq] at e'
    obtain ⟨rfl, _⟩ := e'
    match is, hl with
    | [i, j], _ =>
      have a := hi i (by simp)
      have b := hi j (by simp)
      refine ⟨(nm, i.toNat, j.toNat) :: lks, ?_, fun l hl => ?_⟩
      · rw [List.map_cons, e]
        congr 1
        unfold lkD tie
        have e1 : ((i.toNat : Nat) : Int) = i := by omega
        have e2 : ((j.toNat : Nat) : Int) = j := by omega
        simp [e1, e2]
      · rcases List.mem_cons.mp hl with rfl | hl
        · exact ⟨hn, by show i.toNat < k; omega, by show j.toNat < k; omega⟩
        · exact hh l hl
theorem labels_data {ls : List D} {k : Nat} : ∀ {bs : List D}, (∀ x ∈ bs, ∃ nm is, x = tie nm is ∧ is.length = 1 ∧ nameS nm = true ∧ ∀ i ∈ is, 0 ≤ i ∧ i ≤ (k : Int) - 1) → (∀ x ∈ bs, ∃ nm is, x = tie nm is ∧ .str nm ∈ ls.map nameD) →
    ∃ lbs : List Lb, bs = lbs.map lbD ∧ ∀ b ∈ lbs, .str b.1 ∈ ls.map nameD ∧ b.2 < k
  | [], _, _ => ⟨[], rfl, fun l hl => (nomatch hl)⟩
  | x :: bs, h1, h2 => by
    obtain ⟨lbs, e, hh⟩ := labels_data (fun y hy => h1 y (List.mem_cons_of_mem _ hy)) fun y hy => h2 y (List.mem_cons_of_mem _ hy)
    obtain ⟨nm, is, rfl, hl, _, hi⟩ := h1 x List.mem_cons_self
    obtain ⟨nm', is', e', hn⟩ := h2 _ List.mem_cons_self
    unfold tie at e'
    simp only [D.tup.injEq, List.cons.injEq, D.str.injEq] at e'
    obtain ⟨rfl, _⟩ := e'
    match is, hl with
    | [i], _ =>
      have a := hi i (by simp)
      refine ⟨(nm, i.toNat) :: lbs, ?_, fun l hl => ?_⟩
      · rw [List.map_cons, e]
        congr 1
        unfold lbD tie
        have e1 : ((i.toNat : Nat) : Int) = i := by omega
        simp [e1]
      · rcases List.mem_cons.mp hl with rfl | hl
        · exact ⟨hn, by show i.toNat < k; omega⟩
        · exact hh l hl
theorem mesh_data {rs ls : List D} {k : Nat} {ks bs : List D} (ok : MeshOk rs ls (k : Int) ks bs) : ∃ lks lbs, ks = lks.map lkD ∧ bs = lbs.map lbD ∧ Tied rs ls k lks lbs := by
  obtain ⟨lks, e1, h1⟩ := links_data (k := k) ok.net.lk.each ok.kn
  obtain ⟨lbs, e2, h2⟩ := labels_data (k := k) ok.net.lb.each ok.bn
  subst e1
  subst e2
  have z1 := ok.net.ll
  have z2 := ok.net.bl
  have z3 := ok.net.k1
  rw [List.length_map] at z1 z2
  exact ⟨lks, lbs, rfl, rfl, ⟨h1, h2, z1, z2, by omega⟩⟩
theorem TiesOk.sub {many : Int} {n : Nat} {xs ys : List D} (h : TiesOk many n ys) (s : xs.Sublist ys) : TiesOk many n xs := ⟨fun x hx => h.each x (s.subset hx), ris_sub h.rise s⟩
/-! ### fillings put together -/
/-! ### as data -/
/-! ### the law -/
end DL

set_option Elab.async false
set_option linter.all false
set_option maxRecDepth 100000
set_option maxHeartbeats 4000000
/-! W22: a law's own striking: what it leaves. -/
namespace DL
open PySem L2
/-! ### plain: some has gone, nothing that must stay -/
structure Part (rs ls : List D) (lks : List Lk) (lbs : List Lb) (B cur : Lots) : Prop where
  len : cur.length = B.length
  sub : ∀ i, (lot cur i).Sublist (lot B i)
  most : ∀ L', In L' B → holdB rs ls lks lbs L' = true → In L' cur
section
variable {rs ls : List D} {lks : List Lk} {lbs : List Lb} {B cur : Lots}
end
/-! ### a house's rules by their names -/
/-- the rules, the lists by their names, as a dict -/
structure ByAt (M : Mp) (d : Addr) (xs : List D) : Prop where
  at_ : ∃ kvs : List (Key × D), M d = some (.dK kvs) ∧ ∀ nm v, .tup [.str nm, v] ∈ xs → atL kvs (.inr nm) = some v
theorem ByAt.keep {M M' : Mp} {d : Addr} {xs : List D} (h : ByAt M d xs) (k : Keep M M') : ByAt M' d xs := by
  obtain ⟨kvs, e, a⟩ := h.at_
  exact ⟨kvs, k _ _ e, a⟩
/-! ### the law's own striking -/
theorem allM_len (n : Nat) : (allM n).length = n := by unfold allM; simp
end DL

set_option Elab.async false
set_option linter.all false
set_option maxRecDepth 100000
set_option maxHeartbeats 4000000
/-! W23: lots drawn; lots narrowed by a law's own striking. -/
namespace DL
open PySem L2
end DL

set_option Elab.async false
set_option linter.all false
set_option maxRecDepth 100000
set_option maxHeartbeats 4000000
/-! W24: a law's own look at fillings, its own going through all rows of marks. -/
namespace DL
open PySem L2
end DL

set_option Elab.async false
set_option linter.all false
set_option maxRecDepth 100000
set_option maxHeartbeats 4000000
/-! W25: houses of the same names; maps that keep rules and lists. -/
namespace DL
open PySem L2
/-! ### maps that keep -/
/-! ### pairs and marks as data -/
end DL

set_option Elab.async false
set_option linter.all false
set_option maxRecDepth 100000
set_option maxHeartbeats 4000000
/-! W26: the greatest lots are one; sorted things as data. -/
namespace DL
open PySem L2
section
variable {rs ls : List D} {lks : List Lk} {lbs : List Lb} {n k : Nat}
end
/-! ### sorted things as data -/
/-! ### rows of marks rise -/
end DL

set_option Elab.async false
set_option linter.all false
set_option maxRecDepth 100000
set_option maxHeartbeats 4000000
/-! W27: houses paired. -/
namespace DL
open PySem L2
/-! ### the paired house -/
section
variable {n m : Nat} {r1 l1 r2 l2 : List D}
end
end DL

set_option Elab.async false
set_option linter.all false
set_option maxRecDepth 100000
set_option maxHeartbeats 4000000
/-! W28: paired; a twin of a home. -/
namespace DL
open PySem L2
end DL

set_option Elab.async false
set_option linter.all false
set_option maxRecDepth 100000
set_option maxHeartbeats 4000000
/-! W29: fillings and lots of a paired house. -/
namespace DL
open PySem L2
section
variable {n m k : Nat} {r1 l1 r2 l2 : List D} {lks : List Lk} {lbs : List Lb}
/-! ### fillings -/
/-! ### lots -/
end
end DL

set_option Elab.async false
set_option linter.all false
set_option maxRecDepth 100000
set_option maxHeartbeats 4000000
/-! W30: striking as data; behind and ahead; a mark struck; what a link strikes. -/
namespace DL
open PySem L2
/-! ### the data -/
inductive Gr where
  | lab (nm : Str)
  | frm (nm : Str) (j : Nat)
  | to_ (nm : Str) (j : Nat)
deriving DecidableEq
abbrev Row := Nat × Int × Gr
def grD : Gr → D
  | .lab nm => .tup [.str "label", .str nm]
  | .frm nm j => .tup [.str "from", .str nm, .int (j : Int)]
  | .to_ nm j => .tup [.str "to", .str nm, .int (j : Int)]
def rowD (r : Row) : D := .tup [.int (r.1 : Int), .int r.2.1, grD r.2.2]
abbrev Pr2 := Nat × Int
def keyP (p : Pr2) : List Key := [.inl (p.1 : Int), .inl p.2]
def kvP (p : Pr2) : List Key × D := (keyP p, .bl true)
/-- what is struck, and the rows -/
structure Sk where
  st : List Pr2
  fd : List Row
noncomputable def behL (rs : List D) (n : Nat) (nm : Str) (m : Int) : List Int := (allM n).filter fun j => goB rs nm m j
noncomputable def aheL (rs : List D) (n : Nat) (nm : Str) (m : Int) : List Int := (allM n).filter fun j => goB rs nm j m
def allSt (st : List Pr2) (k : Nat) (l : List Int) : Bool := l.all fun m => decide ((k, m) ∈ st)
/-! ### the fields -/
def strF (h w s f : D) : List (Str × D) := [("house", h), ("web", w), ("struck", s), ("found", f)]
structure StrAt (c : Cs) (M : Mp) (a hh nn d f : Addr) (s : Sk) : Prop where
  i : M a = some (.ins c.Striking (strF (.ref hh) (.ref nn) (.ref d) (.ref f)))
  d : M d = some (.dX c.P c.w (s.st.map kvP))
  f : M f = some (.lst (s.fd.map rowD))
theorem StrAt.keep {c : Cs} {M M' : Mp} {a hh nn d f : Addr} {s : Sk} (h : StrAt c M a hh nn d f s) (k : Keep M M') : StrAt c M' a hh nn d f s := ⟨k _ _ h.i, k _ _ h.d, k _ _ h.f⟩
/-- all else is kept -/
def KeepX (d f : Addr) (M M' : Mp) : Prop := ∀ b o, b ≠ d → b ≠ f → M b = some o → M' b = some o
theorem KeepX.refl {d f : Addr} {M : Mp} : KeepX d f M M := fun _ _ _ _ e => e
theorem KeepX.trans {d f : Addr} {M M' M'' : Mp} (h : KeepX d f M M') (k : KeepX d f M' M'') : KeepX d f M M'' := fun b o h1 h2 e => k b o h1 h2 (h b o h1 h2 e)
/-! ### behind, ahead -/
/-! ### a mark struck -/
/-! ### are some struck -/
end DL

set_option Elab.async false
set_option linter.all false
set_option maxRecDepth 100000
set_option maxHeartbeats 4000000
/-! W33: striking as functions, and what they leave (no program here). -/
namespace DL
open PySem L2
theorem nd_len {α : Type} [DecidableEq α] : ∀ {l m : List α}, l.Nodup → (∀ x ∈ l, x ∈ m) → l.length ≤ m.length
  | [], _, _, _ => Nat.zero_le _
  | x :: l, m, nd, h => by
    have hx := h x List.mem_cons_self
    have nd' := List.nodup_cons.mp nd
    have ih := nd_len (l := l) (m := m.erase x) nd'.2 fun y hy => (List.mem_erase_of_ne fun (e : y = x) => nd'.1 (e ▸ hy)).mpr (h y (List.mem_cons_of_mem _ hy))
    rw [List.length_erase_of_mem hx] at ih
    have : 0 < m.length := List.length_pos_of_mem hx
    rw [List.length_cons]
    omega
theorem allM_iff {n : Nat} {m : Int} : m ∈ allM n ↔ 0 ≤ m ∧ m < (n : Int) := by
  unfold allM
  rw [List.mem_map]
  constructor
  · rintro ⟨x, hx, rfl⟩
    rw [List.mem_range] at hx
    omega
  · rintro ⟨h0, h1⟩
    exact ⟨m.toNat, by rw [List.mem_range]; omega, by omega⟩
section
variable (rs ls : List D) (n K : Nat) (lks : List Lk) (lbs : List Lb)
/-! ### rows as they are looked at -/
noncomputable def rowB (st : List Pr2) (r : Row) : Bool := decide (r.1 < K ∧ 0 ≤ r.2.1 ∧ r.2.1 < (n : Int)) && match r.2.2 with
  | .lab nm => decide ((nm, r.1) ∈ lbs) && !liB ls nm r.2.1
  | .frm nm j => decide ((nm, r.1, j) ∈ lks) && allSt st j (behL rs n nm r.2.1)
  | .to_ nm j => decide ((nm, j, r.1) ∈ lks) && allSt st j (aheL rs n nm r.2.1)
def addK (st : List Pr2) (p : Pr2) : List Pr2 := if p ∈ st then st else st ++ [p]
def keyR (r : Row) : Pr2 := (r.1, r.2.1)
noncomputable def knownF : List Pr2 → List Pr2 → List Row → Option (List Pr2)
  | st, _, [] => some st
  | st, told, r :: R => if (rowB rs ls n K lks lbs st r && !decide (keyR r ∈ told)) = true then knownF (addK st (keyR r)) (told ++ [keyR r]) R else none
end
section
variable {rs ls : List D} {n K : Nat} {lks : List Lk} {lbs : List Lb}
/-! ### what stays so at each step -/
structure Sk.Ok (rs ls : List D) (n K : Nat) (lks : List Lk) (lbs : List Lb) (ah : List Pr2) (s : Sk) : Prop where
  nd : s.st.Nodup
  rg : ∀ p ∈ s.st, p.1 < K ∧ 0 ≤ p.2 ∧ p.2 < (n : Int)
  kn : knownF rs ls n K lks lbs ah [] s.fd = some s.st
  fd : s.fd.length ≤ s.st.length
theorem Sk.Ok.len {ah : List Pr2} {s : Sk} (h : s.Ok rs ls n K lks lbs ah) : s.st.length ≤ K * n := by
  have e : ((List.range K).flatMap fun k => (allM n).map fun m => ((k, m) : Pr2)).length = K * n := by
    rw [List.length_flatMap]
    have : (List.range K).map (fun k => ((allM n).map fun m => ((k, m) : Pr2)).length) = (List.range K).map fun _ => n := List.map_congr_left fun x _ => by rw [List.length_map, allM_len]
    rw [this, List.map_const', List.length_range, List.sum_replicate_nat]
  rw [← e]
  refine nd_len h.nd fun p hp => ?_
  obtain ⟨a, b, c⟩ := h.rg p hp
  exact List.mem_flatMap.mpr ⟨p.1, List.mem_range.mpr a, List.mem_map.mpr ⟨p.2, allM_iff.mpr ⟨b, c⟩, rfl⟩⟩
/-! ### each step -/
def Closed (rs : List D) (n : Nat) (l : Lk) (st : List Pr2) : Prop := ∀ m ∈ allM n, (allSt st l.2.2 (behL rs n l.1 m) = true → (l.2.1, m) ∈ st) ∧ (allSt st l.2.1 (aheL rs n l.1 m) = true → (l.2.2, m) ∈ st)
/-- along a link -/
structure Al (rs ls : List D) (n K : Nat) (lks : List Lk) (lbs : List Lb) (ah : List Pr2) (l : Lk) (s0 : Sk) (done : List Int) (a : Sk × List Nat) : Prop where
  ok : a.1.Ok rs ls n K lks lbs ah
  gr : ∀ p ∈ s0.st, p ∈ a.1.st
  nw : ∀ p ∈ a.1.st, p ∈ s0.st ∨ p.1 ∈ a.2
  at_ : ∀ i ∈ a.2, i = l.2.1 ∨ i = l.2.2
  len : a.1.st.length = s0.st.length + a.2.length
  no : a.2 = [] → a.1 = s0 ∧ ∀ m ∈ done, (allSt s0.st l.2.2 (behL rs n l.1 m) = true → (l.2.1, m) ∈ s0.st) ∧ (allSt s0.st l.2.1 (aheL rs n l.1 m) = true → (l.2.2, m) ∈ s0.st)
/-! ### the line -/
/-- what stays so while the line is gone through -/
structure Gn (rs ls : List D) (n K : Nat) (lks : List Lk) (lbs : List Lb) (ah : List Pr2) (line : List Lk) (s : Sk) : Prop where
  ok : s.Ok rs ls n K lks lbs ah
  nd : line.Nodup
  sub : ∀ l ∈ line, l ∈ lks
  cl : ∀ l ∈ lks, l ∉ line → Closed rs n l s.st
  lb : ∀ b ∈ lbs, ∀ m ∈ allM n, liB ls b.1 m = false → (b.2, m) ∈ s.st
/-! ### the labels -/
structure Lbd (rs ls : List D) (n K : Nat) (lks : List Lk) (lbs : List Lb) (ah : List Pr2) (P : Lb → Int → Prop) (s : Sk) : Prop where
  ok : s.Ok rs ls n K lks lbs ah
  lb : ∀ b m, P b m → liB ls b.1 m = false → (b.2, m) ∈ s.st
end
end DL

set_option Elab.async false
set_option linter.all false
set_option maxRecDepth 100000
set_option maxHeartbeats 4000000
/-! W34: what striking leaves is the greatest lots (no program here). -/
namespace DL
open PySem L2
section
variable {rs ls : List D} {n K : Nat} {lks : List Lk} {lbs : List Lb}
end
end DL

set_option Elab.async false
set_option linter.all false
set_option maxRecDepth 100000
set_option maxHeartbeats 4000000
/-! W31: striking: along a link, all along. -/
namespace DL
open PySem L2
end DL

set_option Elab.async false
set_option linter.all false
set_option maxRecDepth 100000
set_option maxHeartbeats 4000000
/-! W32: striking all along, Striking made. -/
namespace DL
open PySem L2
end DL

set_option Elab.async false
set_option linter.all false
set_option maxRecDepth 100000
set_option maxHeartbeats 4000000
/-! W35: Striking made, rows told, lots left. -/
namespace DL
open PySem L2
end DL

set_option Elab.async false
set_option linter.all false
set_option maxRecDepth 100000
set_option maxHeartbeats 4000000
/-! W36: plain things alike or not; rows looked at. -/
namespace DL
open PySem L2
mutual
def puB : D → Bool
  | .int _ => true
  | .str _ => true
  | .tup ds => puBs ds
  | _ => false
def puBs : List D → Bool
  | [] => true
  | d :: ds => puB d && puBs ds
end
mutual
theorem eqv_pu : ∀ {a b : D}, puB a = true → puB b = true → (PyData.eqv (py a) (py b) = true ↔ a = b)
  | .int i, .int j, _, _ => by simp only [py, eqv_int, decide_eq_true_eq, D.int.injEq]
  | .str i, .str j, _, _ => by simp only [py, eqv_str, decide_eq_true_eq, D.str.injEq]
  | .int i, .str j, _, _ => by simp [py, PyData.eqv]
  | .str i, .int j, _, _ => by simp [py, PyData.eqv]
  | .int i, .tup ys, _, _ => by simp [py, PyData.eqv]
  | .str i, .tup ys, _, _ => by simp [py, PyData.eqv]
  | .tup xs, .int j, _, _ => by simp [py, PyData.eqv]
  | .tup xs, .str j, _, _ => by simp [py, PyData.eqv]
  | .tup xs, .tup ys, ha, hb => by
    have := eqvs_pu (a := xs) (b := ys) (by simpa [puB] using ha) (by simpa [puB] using hb)
    simp only [py, PyData.eqv, D.tup.injEq]
    exact this
  | .non, _, ha, _ => by simp [puB] at ha
  | .bl _, _, ha, _ => by simp [puB] at ha
  | .ty _, _, ha, _ => by simp [puB] at ha
  | .ref _, _, ha, _ => by simp [puB] at ha
  | .int _, .non, _, hb => by simp [puB] at hb
  | .int _, .bl _, _, hb => by simp [puB] at hb
  | .int _, .ty _, _, hb => by simp [puB] at hb
  | .int _, .ref _, _, hb => by simp [puB] at hb
  | .str _, .non, _, hb => by simp [puB] at hb
  | .str _, .bl _, _, hb => by simp [puB] at hb
  | .str _, .ty _, _, hb => by simp [puB] at hb
  | .str _, .ref _, _, hb => by simp [puB] at hb
  | .tup _, .non, _, hb => by simp [puB] at hb
  | .tup _, .bl _, _, hb => by simp [puB] at hb
  | .tup _, .ty _, _, hb => by simp [puB] at hb
  | .tup _, .ref _, _, hb => by simp [puB] at hb
theorem eqvs_pu : ∀ {a b : List D}, puBs a = true → puBs b = true → (PyData.eqvAll (pys a) (pys b) = true ↔ a = b)
  | [], [], _, _ => by simp [pys, PyData.eqvAll]
  | [], y :: ys, _, _ => by simp [pys, PyData.eqvAll]
  | x :: xs, [], _, _ => by simp [pys, PyData.eqvAll]
  | x :: xs, y :: ys, ha, hb => by
    simp only [puBs, Bool.and_eq_true] at ha hb
    have h1 := eqv_pu ha.1 hb.1
    have h2 := eqvs_pu ha.2 hb.2
    simp only [pys, PyData.eqvAll, Bool.and_eq_true, h1, h2, List.cons.injEq]
end
mutual
theorem pu_plain : ∀ {a : D}, puB a = true → plain a = true
  | .int _, _ => rfl
  | .str _, _ => rfl
  | .tup xs, h => by
    have := pus_plain (a := xs) (by simpa [puB] using h)
    simpa [plain] using this
  | .non, h => by simp [puB] at h
  | .bl _, h => by simp [puB] at h
  | .ty _, h => by simp [puB] at h
  | .ref _, h => by simp [puB] at h
theorem pus_plain : ∀ {a : List D}, puBs a = true → plains a = true
  | [], _ => rfl
  | x :: xs, h => by
    simp only [puBs, Bool.and_eq_true] at h
    have h1 := pu_plain h.1
    have h2 := pus_plain h.2
    simp [plains, h1, h2]
end
theorem in_pu {neg b : Bool} {x y : D} {ds : List D} {M : Mp} {Q : DQ} (hs : seqD M y ds) (px : puB x = true) (sx : SeqAt.shaped (py x) = true) (hp : ∀ d ∈ ds, puB d = true ∧ lay d) (hb : b = true ↔ x ∈ ds) (h : Q (.bl (negB neg b)) M) : inD neg x y M Q := by
  refine .inl ⟨py x, ds, pys ds, .plain (pu_plain px), hs, .plain (plains_of fun d hd => pu_plain (hp d hd).1), sx, ?_, ?_⟩
  · have : (PyData.tuple (pys ds)).canLay0 = true := lay_tup fun d hd => (hp d hd).2
    simpa [PyData.canLay0] using this
  · have e : ((pys ds).any fun z => PyData.eqv z (py x)) = b := by
      rw [Bool.eq_iff_iff, hb, pys_map, List.any_map, List.any_eq_true]
      constructor
      · rintro ⟨d, hd, e⟩
        have := (eqv_pu (hp d hd).1 px).mp e
        rw [← this]
        exact hd
      · exact fun hx => ⟨x, hx, (eqv_pu px px).mpr rfl⟩
    rw [e]
    exact h
theorem eq_pu {neg b : Bool} {x y : D} {M : Mp} {Q : DQ} (px : puB x = true) (sx : SeqAt.shaped (py x) = true) (p2 : puB y = true) (s2 : SeqAt.shaped (py y) = true) (hb : b = true ↔ x = y) (h : Q (.bl (if neg then !b else b)) M) : eqD neg x y M Q := by
  refine eq_plain (pu_plain px) (pu_plain p2) sx s2 ?_
  have e : PyData.eqv (py x) (py y) = b := by rw [Bool.eq_iff_iff, hb]; exact eqv_pu px p2
  rw [e]
  exact h
/-! ### rows looked at -/
def Gr.nm : Gr → Str
  | .lab nm => nm
  | .frm nm _ => nm
  | .to_ nm _ => nm
end DL

set_option Elab.async false
set_option linter.all false
set_option maxRecDepth 100000
set_option maxHeartbeats 4000000
/-! W37: rows known, shown; what they leave. -/
namespace DL
open PySem L2
theorem pu_marks (l : List Int) : puB (marksT l) = true := by
  show puBs (l.map D.int) = true
  induction l with
  | nil => rfl
  | cons x l ih => rw [List.map_cons]; unfold puBs; rw [ih]; rfl
end DL

set_option Elab.async false
set_option linter.all false
set_option maxRecDepth 100000
set_option maxHeartbeats 4000000
/-! W38: a law's own look at a row; rows shown. -/
namespace DL
open PySem L2
section
variable {rs ls : List D} {n K : Nat} {lks : List Lk} {lbs : List Lb}
end
/-! ### rows shown -/
/-! ### a row by its ground -/
end DL

set_option Elab.async false
set_option linter.all false
set_option maxRecDepth 100000
set_option maxHeartbeats 4000000
/-! W39: all rows of numbers; the least leading of houses; what is led. -/
namespace DL
open PySem L2
end DL

set_option Elab.async false
set_option linter.all false
set_option maxRecDepth 100000
set_option maxHeartbeats 4000000
/-! W40: a law's own rows of striking; all rows of marks. -/
namespace DL
open PySem L2
/-! ### the places at which may be struck -/
end DL

set_option Elab.async false
set_option linter.all false
set_option maxRecDepth 100000
set_option maxHeartbeats 4000000
/-! W41: a house led by a drawn map, with more. -/
namespace DL
open PySem L2
end DL

set_option Elab.async false
set_option linter.all false
set_option maxRecDepth 100000
set_option maxHeartbeats 4000000
/-! W43: rows of striking put behind one another; what is left, row by row. -/
namespace DL
open PySem L2
section
variable {rs ls : List D} {n K : Nat} {lks : List Lk} {lbs : List Lb}
end
end DL

set_option Elab.async false
set_option linter.all false
set_option maxRecDepth 100000
set_option maxHeartbeats 4000000
/-! DLx: defs linked to one another; a pot seen as a list; facts of classes. -/
namespace DL
open PySem PySem.Spec PyProof.Rows L2
section
variable {P : Program} {w : World} {K : PySem.W.Frag} {mg : Str → Option Value} {base : Heap} {x qual : Str} {params : Arguments} {body : List Stmt} {scope : Scope} {dvs : List V} {kws : List (Str × V)} {f : Addr} {fd : FuncData} {ps : List Str} {k : Nat} {S : Spec}
/-- a global's promise at a depth -/
def Pr (P : Program) (w : World) (K : PySem.W.Frag) (mg : Str → Option Value) (base : Heap) (k : Nat) (x : Str) (n : Nat) (ks : List Str) (S : Spec) : Prop := ∀ A, Room k A → Callee ⟨P, w, K, mg, base, A⟩ x n ks S
/-- the same where no repr is under way -/
def PrG (P : Program) (w : World) (K : PySem.W.Frag) (mg : Str → Option Value) (base : Heap) (k : Nat) (x : Str) (n : Nat) (ks : List Str) (S : Spec) : Prop := ∀ A, Room k A → A.guards = some [] → Callee ⟨P, w, K, mg, base, A⟩ x n ks S
/-- a class's own method at a depth -/
def PrO (P : Program) (w : World) (K : PySem.W.Frag) (mg : Str → Option Value) (base : Heap) (k : Nat) (C : Addr) (m : Str) (S : Spec) : Prop := ∀ A, Room k A → OwnM ⟨P, w, K, mg, base, A⟩ C m S
theorem kbn_of (F : FunD K x qual params body scope [] kws f fd) (n : Nat) (ks : List Str)
    (h : ∀ (kV doc pm : Value) (an : Option Addr) (cdv ct : Value) (us ws : List Value), us.length = n → ws.length = ks.length → bindArgs (PySem.W.fnOf x qual params body scope .none kV doc pm an cdv ct) ⟨us, ks.zip ws⟩ = pure (ps.zip (us ++ ws))) : KBn K fd ps n ks (fun us ws => us ++ ws) (fun vs zs => vs ++ zs) := by
  obtain ⟨oc, od, dV, kV, doc, pm, an, cdv, ct, osl, rfl, lk, hcd, hD, hK⟩ := F.ex
  rcases hD with ⟨_, rfl⟩ | ⟨e, _⟩
  · exact ⟨fun s us ws _ l1 l2 => .of_eq (h kV doc pm an cdv ct us ws l1 l2), fun r1 r2 => r1.append r2⟩
  · exact absurd rfl e
theorem Pr.fn (F : FnOk P w K mg base CX0 k f fd ps (spD K S)) (hm : mg x = some (.ref f)) (hk : PySem.W.keepIn K (.ref f) = true) (hb : Binds K fd ps []) (n : Nat) : Pr P w K mg base k x n [] S := fun A hr => Callee.fn (c := ⟨P, w, K, mg, base, A⟩) F hr hm hk hb
theorem Pr.fnG (F : FnG P w K mg base k f fd ps S) (hm : mg x = some (.ref f)) (hk : PySem.W.keepIn K (.ref f) = true) (hb : Binds K fd ps []) (n : Nat) : PrG P w K mg base k x n [] S := fun A hr hg => Callee.fnG (c := ⟨P, w, K, mg, base, A⟩) F hr hg hm hk hb
theorem Pr.make {n : Nat} {ks : List Str} {C : Addr} (Mk' : Mk K C f) (F : FnOk P w K mg base CX0 k f fd ps (spD K S)) (hm : mg x = some (.ref C)) (hb : KBn K fd ps (n + 1) ks (fun us ws => us ++ ws) (fun vs zs => vs ++ zs)) : Pr P w K mg base (k + 1) x n ks (makeS C S id) := fun A hr =>
  Callee.makeK (c := ⟨P, w, K, mg, base, A⟩) Mk' F hr hm hb fun H ds vs zs l1 l2 r z => by
    show Reps K H (.ref z :: ds) (.ref z :: vs ++ zs)
    rw [List.cons_append]
    exact .cons rfl r
/-- a global that is data -/
def GlD (K : PySem.W.Frag) (mg : Str → Option Value) (x : Str) (d : D) : Prop := ∃ u v, mg x = some u ∧ RelV v u ∧ ∀ H, Rep K H d v
theorem gld_int {i : Int} (h : ∃ t, mg x = some (.int i t)) : GlD K mg x (.int i) := by
  obtain ⟨t, e⟩ := h
  exact ⟨_, .int i, e, ⟨t, rfl⟩, fun H => rfl⟩
theorem gld_str {z : Str} (h : ∃ t, mg x = some (.str z t)) : GlD K mg x (.str z) := by
  obtain ⟨t, e⟩ := h
  exact ⟨_, .str z, e, ⟨t, rfl⟩, fun H => rfl⟩
/-- a class's own method -/
theorem own_of {C : Addr} {m : Str} (F : FnOk P w K mg base CX0 k f fd ps (spD K S)) (hb : Binds K fd ps []) (hM : Meth K C m f) : PrO P w K mg base (k + 1) C m S := fun A hr => ⟨k, f, fd, ps, F, hr, hb, hM.1, hM.2⟩
end
/-! ### a pot is a list of two numbers -/
theorem pot_in {K : PySem.W.Frag} {H : Hp} {M : Mp} {p : Addr} {Fr : Addr → Prop} (m : RepM K H M) (hp : M p = some .pot) (fr : FrOk Fr H M) : ∃ g n, PotOk g n ∧ RepM K H (up M p (.lst [.int g, .int n])) ∧ FrOk Fr H (up M p (.lst [.int g, .int n])) := by
  obtain ⟨g, n, h1, h2⟩ := m p _ hp
  refine ⟨g, n, h2, fun a o e => ?_, fun a ha => ?_⟩
  · by_cases z : a = p
    · subst z
      rw [up_same] at e
      cases e
      exact ⟨_, h1, .cons rfl (.cons rfl .nil)⟩
    · rw [up_ne z] at e
      exact m a o e
  · have ne : a ≠ p := fun z => by have q := (fr a ha).2; rw [z, hp] at q; cases q
    rw [up_ne ne]
    exact fr a ha
theorem pot_out {K : PySem.W.Frag} {H H' : Hp} {M : Mp} {p : Addr} {Fr : Addr → Prop} {g n : Int} (ok : PotOk g n) (m : RepM K H' (up M p (.lst [.int g, .int n]))) (fr : Frm Fr H H' (up M p (.lst [.int g, .int n]))) : RepM K H' (up M p .pot) ∧ Frm Fr H H' (up M p .pot) := by
  refine ⟨fun a o e => ?_, fun a ha => ?_⟩
  · by_cases z : a = p
    · subst z
      rw [up_same] at e
      cases e
      obtain ⟨vs, h1, h2⟩ := m a _ up_same
      unfold Reps at h2
      obtain ⟨v, r, rfl, hv, h2⟩ := h2
      unfold Reps at h2
      obtain ⟨v', r, rfl, hv', h2⟩ := h2
      unfold Reps at h2
      subst h2
      cases hv
      cases hv'
      exact ⟨g, n, h1, ok⟩
    · rw [up_ne z] at e
      exact m a o (by rw [up_ne z]; exact e)
  · have h := fr a ha
    by_cases z : a = p
    · subst z
      rw [up_same] at h
      cases h.2
    · rw [up_ne z] at h ⊢
      exact h
theorem up_up {M : Mp} {p : Addr} {o o' : MO} : up (up M p o) p o' = up M p o' := by
  funext a
  unfold up
  by_cases h : a = p <;> simp [h]
theorem up_eq {M : Mp} {p : Addr} {o : MO} (h : M p = some o) : up M p o = M := by
  funext a
  unfold up
  by_cases e : a = p
  · subst e; simp [h]
  · simp [e]
/-! ### facts of the written part -/
theorem unB_ok {K : PySem.W.Frag} {C O : Addr} (h : unB K C O = true) : UnC K C O := by
  obtain ⟨h1, h⟩ := band h
  obtain ⟨h2, h3⟩ := band h
  exact ⟨of_decide_eq_true h1, h2, fun k hk => List.all_eq_true.mp h3 k hk⟩
theorem clsB_ok {K : PySem.W.Frag} {C : Addr} (hc : Cls K C) (h : clsB K C = true) : ClsF K C := by
  obtain ⟨h1, h⟩ := band h
  obtain ⟨h2, h⟩ := band h
  obtain ⟨h3, h⟩ := band h
  obtain ⟨h4, h5⟩ := band h
  exact ⟨hc, He.eqO_ok h1, He.eqO_ok h2, of_decide_eq_true h3, of_decide_eq_true h4, fun k hk => of_decide_eq_true (List.all_eq_true.mp h5 k hk)⟩
theorem neB_ok {k : Co} {C : Addr} (h : neB k.K C = true) : NeM k C := by
  obtain ⟨h1, h2⟩ := band h
  exact ⟨He.eqO_ok h1, of_decide_eq_true h2⟩
theorem noLst_ok {K : PySem.W.Frag} {h : Heap} {a : Addr} {o : Obj} (kin : K.In h) (hn : noLst K = true) (ha : h.get? a = some o) (ho : o.cls = .type "list") : K.lookup a = none := by
  cases e : K.lookup a with
  | none => rfl
  | some u =>
    have e1 := kin a u e
    rw [ha] at e1
    cases e1
    have e2 := List.all_eq_true.mp hn _ (He.lookup_mem e)
    simp only [ho] at e2
    simp at e2
/-- a law's end over a head by facts, for defs that know that no repr is under way -/
theorem walk_ofG {l : PySem.W.OpenLaw} {n k : Nat} {q : Program} {loose : List Str} {XP : (Str → Option Value) → Heap → Prop} {YP : World → Heap → Prop} {d : DefRec} {x : Str}
    (hn : l.most = some n) (hn2 : n ≤ sizeLine) (hdf : d.params.defaults = []) (hr : Room k callerA)
    (F : ∀ (w : World) (mg : Str → Option Value) (fa : Addr) (h : Heap), YP w h → h.Ns mainGlobals mg → mg d.name = some (.ref fa) →
      ∃ (K : PySem.W.Frag) (fd : FuncData) (S : Spec), K.In h ∧ noLst K = true ∧ (∀ (s : Shared) (u : Value), BindsTo s fd ⟨[u], []⟩ [(x, u)]) ∧
        (∀ (a : Addr) (ns : List Int) (M : Mp), ns.length ≤ n → M a = some (.scr ns) → S [.ref a] M fun d _ => d = .bl true) ∧
        ∀ base : Heap, K.In base → base.Ns mainGlobals mg → base.NoDigits → FnG l.prog w K mg base k fa fd [x] S) :
    PySem.W.WalkO q loose XP YP l.row.toRowW d [] (fun f vs => PySem.call f vs) := by
  refine Att.attach_call hn hdf fun w s₀ s₁ mg mb fa o pm cd doc a vs ns G Y ho hd hcd hmg hobj hints hlen hg => ?_
  obtain ⟨K, fd, S, KX, hnl, hb, hS, hF⟩ := F w mg fa _ Y G.T.g hmg
  exact law_end KX G.T.g G.T.b G.T.builtins G.T.nolimit G.T.nodigits hg hobj hints (Nat.le_trans hlen hn2) hr (noLst_ok KX hnl hobj rfl) hF hb fun b M hM => hS b ns M hlen hM
end DL

set_option Elab.async false
set_option linter.all false
set_option maxRecDepth 100000
set_option maxHeartbeats 4000000
/-! DLx2: methods called; classes made with a keyword left out whose default is the empty tuple. -/
namespace DL
open PySem PySem.Spec PyProof.Rows L2
section
variable {P : Program} {w : World} {K : PySem.W.Frag} {mg : Str → Option Value} {base : Heap} {x qual : Str} {params : Arguments} {body : List Stmt} {scope : Scope} {kws : List (Str × V)} {f : Addr} {fd : FuncData} {ps : List Str} {k : Nat} {S : Spec}
end
end DL

set_option Elab.async false
set_option linter.all false
set_option maxRecDepth 100000
set_option maxHeartbeats 4000000
/-! U1: each def's promise by its reading. -/
namespace DL
open PySem L2
theorem szs_0 {d : D} {ds : List D} (h : szs (d :: ds)) : sz d := by unfold szs at h; exact h.1
theorem szs_1 {a d : D} {ds : List D} (h : szs (a :: d :: ds)) : sz d := by unfold szs at h; exact szs_0 h.2
theorem szs_2 {a b d : D} {ds : List D} (h : szs (a :: b :: d :: ds)) : sz d := by unfold szs at h; exact szs_1 h.2
theorem szs_3 {a b c d : D} {ds : List D} (h : szs (a :: b :: c :: d :: ds)) : sz d := by unfold szs at h; exact szs_2 h.2
theorem use_is_whole (c : Cs) (ds : List D) (M : Mp) (Q : DQ) (z : szs ds) (zm : szM M) (h : S_is_whole c ds M Q) : (ir_is_whole c).wp (bodyEnds Q) (startD N_is_whole ds) M := by
  obtain ⟨d, lo, hi, rfl, hk, h⟩ := h
  exact wp_is_whole c hk h
theorem use_are_whole (c : Cs) (ds : List D) (M : Mp) (Q : DQ) (z : szs ds) (zm : szM M) (h : S_are_whole c ds M Q) : (ir_are_whole c).wp (bodyEnds Q) (startD N_are_whole ds) M := by
  obtain ⟨d, lo, hi, rfl, hk, h⟩ := h
  exact wp_are_whole c (szs_0 z) hk h
theorem use_is_name (c : Cs) (ds : List D) (M : Mp) (Q : DQ) (z : szs ds) (zm : szM M) (h : S_is_name c ds M Q) : (ir_is_name c).wp (bodyEnds Q) (startD N_is_name ds) M := by
  obtain ⟨d, rfl, hk, hl, h⟩ := h
  exact wp_is_name c hk hl h
theorem use_are_rising (c : Cs) (ds : List D) (M : Mp) (Q : DQ) (z : szs ds) (zm : szM M) (h : S_are_rising c ds M Q) : (ir_are_rising c).wp (bodyEnds Q) (startD N_are_rising ds) M := by
  obtain ⟨d, xs, rfl, hs, hc, h⟩ := h
  refine wp_are_rising c hs ?_ hc h
  rcases hs with rfl | ⟨a, rfl, ha⟩
  · exact (sz_tup (szs_0 z)).1
  · exact (zm a xs ha).1
theorem use_are_pairs (c : Cs) (ds : List D) (M : Mp) (Q : DQ) (z : szs ds) (zm : szM M) (h : S_are_pairs c ds M Q) : (ir_are_pairs c).wp (bodyEnds Q) (startD N_are_pairs ds) M := by
  obtain ⟨d, lo, hi, rfl, hk, h⟩ := h
  exact wp_are_pairs c (szs_0 z) hk h
theorem use_are_called (c : Cs) (ds : List D) (M : Mp) (Q : DQ) (z : szs ds) (zm : szM M) (h : S_are_called c ds M Q) : (ir_are_called c).wp (bodyEnds Q) (startD N_are_called ds) M := by
  obtain ⟨xs, most, rfl, hl, hc, hr, h⟩ := h
  exact wp_are_called c (sz_tup (szs_0 z)).1 hl hc hr h
theorem use_are_rules (c : Cs) (ds : List D) (M : Mp) (Q : DQ) (z : szs ds) (zm : szM M) (h : S_are_rules c ds M Q) : (ir_are_rules c).wp (bodyEnds Q) (startD N_are_rules ds) M := by
  obtain ⟨xs, many, rfl, ok, h⟩ := h
  exact wp_are_rules c ok h
theorem use_are_lists (c : Cs) (ds : List D) (M : Mp) (Q : DQ) (z : szs ds) (zm : szM M) (h : S_are_lists c ds M Q) : (ir_are_lists c).wp (bodyEnds Q) (startD N_are_lists ds) M := by
  obtain ⟨xs, many, rfl, ok, h⟩ := h
  exact wp_are_lists c ok h
theorem use_House_init (c : Cs) (ds : List D) (M : Mp) (Q : DQ) (z : szs ds) (zm : szM M) (h : S_House_init c ds M Q) : (ir_House_init c).wp (bodyEnds Q) (startD N_House_init ds) M := by
  obtain ⟨p, many, rs, ls, rfl, hp, m1, m2, hr, hl, h⟩ := h
  exact wp_House_init c (szs_2 z) (szs_3 z) hp m1 m2 hr hl h
theorem use_are_ties (c : Cs) (ds : List D) (M : Mp) (Q : DQ) (z : szs ds) (zm : szM M) (h : S_are_ties c ds M Q) : (ir_are_ties c).wp (bodyEnds Q) (startD N_are_ties ds) M := by
  obtain ⟨xs, knots, n, most, rfl, hl, ok, h⟩ := h
  exact wp_are_ties c hl ok (sz_tup (szs_0 z)).1 h
theorem use_Net_init (c : Cs) (ds : List D) (M : Mp) (Q : DQ) (z : szs ds) (zm : szM M) (h : S_Net_init c ds M Q) : (ir_Net_init c).wp (bodyEnds Q) (startD N_Net_init ds) M := by
  obtain ⟨p, knots, ls, bs, rfl, hp, ok, h⟩ := h
  exact wp_Net_init c hp ok h
theorem use_l_of (c : Cs) (ds : List D) (M : Mp) (Q : DQ) (z : szs ds) (zm : szM M) (h : S_l_of c ds M Q) : (ir_l_of c).wp (bodyEnds Q) (startD N_l_of ds) M := by
  obtain ⟨p, q, xs, rfl, hp, hq, hx, hz, h⟩ := h
  exact wp_l_of c hp hq hx hz h
theorem use_l_all_pairs (c : Cs) (ds : List D) (M : Mp) (Q : DQ) (z : szs ds) (zm : szM M) (h : S_l_all_pairs c ds M Q) : (ir_l_all_pairs c).wp (bodyEnds Q) (startD N_l_all_pairs ds) M := by
  obtain ⟨s, rfl, h0, h4, h⟩ := h
  exact wp_l_all_pairs c h0 h4 h
theorem use_l_pairs (c : Cs) (ds : List D) (M : Mp) (Q : DQ) (z : szs ds) (zm : szM M) (h : S_l_pairs c ds M Q) : (ir_l_pairs c).wp (bodyEnds Q) (startD N_l_pairs ds) M := by
  obtain ⟨p, s, rfl, hp, h0, h4, h⟩ := h
  exact wp_l_pairs c hp h0 h4 h
theorem use_l_names (c : Cs) (ds : List D) (M : Mp) (Q : DQ) (z : szs ds) (zm : szM M) (h : S_l_names c ds M Q) : (ir_l_names c).wp (bodyEnds Q) (startD N_l_names ds) M := by
  obtain ⟨p, many, rfl, hp, hm, h⟩ := h
  exact wp_l_names c hp hm h
theorem use_l_home (c : Cs) (ds : List D) (M : Mp) (Q : DQ) (z : szs ds) (zm : szM M) (h : S_l_home c ds M Q) : (ir_l_home c).wp (bodyEnds Q) (startD N_l_home ds) M := by
  obtain ⟨p, most, rfl, hp, h1, h4, h⟩ := h
  exact wp_l_home c hp h1 h4 h
theorem use_l_mesh (c : Cs) (ds : List D) (M : Mp) (Q : DQ) (z : szs ds) (zm : szM M) (h : S_l_mesh c ds M Q) : (ir_l_mesh c).wp (bodyEnds Q) (startD N_l_mesh ds) M := by
  obtain ⟨p, s, rs, ls, most, ties, rfl, hp, okr, okl, r1, m0, m1, t0, t1, h⟩ := h
  exact wp_l_mesh c hp okr okl r1 m0 m1 t0 t1 h
/-! ### those that touch the pot itself -/
theorem useP_l_take (c : Cs) {K : PySem.W.Frag} (H : Hp) (ds : List D) (M : Mp) (Fr : Addr → Prop) (Q : DQ) (z : szs ds) (zm : szM M) (m : RepM K H M) (fr : FrOk Fr H M) (h : S_l_take c ds M Q) :
    ∃ M1 Q1, RepM K H M1 ∧ FrOk Fr H M1 ∧ (ir_l_take c).wp (bodyEnds Q1) (startD N_l_take ds) M1 ∧ ∀ d M' H', Q1 d M' → RepM K H' M' → Frm Fr H H' M' → ∃ M2, RepM K H' M2 ∧ Frm Fr H H' M2 ∧ Q d M2 := by
  obtain ⟨p, upto, rfl, hp, h0, h1, h⟩ := h
  obtain ⟨g, n, ok, m1, fr1⟩ := pot_in m hp fr
  refine ⟨_, fun d M' => ∃ r g' m', d = .int r ∧ 0 ≤ r ∧ r < upto ∧ PotOk g' m' ∧ M' = up M p (.lst [.int g', .int m']), m1, fr1, wp_l_take c h0 h1 ok up_same fun r g' m' r0 r1 ok' => ⟨r, g', m', rfl, r0, r1, ok', up_up⟩, fun d M' H' q r f => ?_⟩
  obtain ⟨v, g', m', rfl, r0, r1, ok', rfl⟩ := q
  obtain ⟨a1, a2⟩ := pot_out ok' r f
  rw [up_eq hp] at a1 a2
  exact ⟨M, a1, a2, h v r0 r1⟩
theorem useP_l_pot (c : Cs) {K : PySem.W.Frag} (H : Hp) (ds : List D) (M : Mp) (Fr : Addr → Prop) (Q : DQ) (z : szs ds) (zm : szM M) (m : RepM K H M) (fr : FrOk Fr H M) (h : S_l_pot c ds M Q) :
    ∃ M1 Q1, RepM K H M1 ∧ FrOk Fr H M1 ∧ (ir_l_pot c).wp (bodyEnds Q1) (startD N_l_pot ds) M1 ∧ ∀ d M' H', Q1 d M' → RepM K H' M' → Frm Fr H H' M' → ∃ M2, RepM K H' M2 ∧ Frm Fr H H' M2 ∧ Q d M2 := by
  obtain ⟨a, ns, k, rfl, ha, hz, h0, h1, h⟩ := h
  refine ⟨M, fun d M' => ∃ p g' m', d = .ref p ∧ M p = none ∧ PotOk g' m' ∧ M' = up M p (.lst [.int g', .int m']), m, fr, wp_l_pot c ha hz h0 h1 fun p g' m' hp ok' => ⟨p, g', m', rfl, hp, ok', rfl⟩, fun d M' H' q r f => ?_⟩
  obtain ⟨p, g', m', rfl, hp, ok', rfl⟩ := q
  obtain ⟨a1, a2⟩ := pot_out ok' r f
  exact ⟨_, a1, a2, h _ p (.new hp) hp up_same⟩
end DL

set_option Elab.async false
set_option linter.all false
set_option maxRecDepth 100000
set_option maxHeartbeats 4000000
/-! U2: the promises of fillings.py and lots.py by their readings. -/
namespace DL
open PySem L2
theorem use_l_built (c : Cs) (ds : List D) (M : Mp) (Q : DQ) (z : szs ds) (zm : szM M) (h : S_l_built c ds M Q) : (ir_l_built c).wp (bodyEnds Q) (startD N_l_built ds) M := by
  obtain ⟨s, rs, ls, rfl, h0, h4, okr, okl, h⟩ := h
  exact wp_l_built c h0 h4 okr okl h
theorem use_l_woven (c : Cs) (ds : List D) (M : Mp) (Q : DQ) (z : szs ds) (zm : szM M) (h : S_l_woven c ds M Q) : (ir_l_woven c).wp (bodyEnds Q) (startD N_l_woven ds) M := by
  obtain ⟨n, ks, bs, rfl, ok, h⟩ := h
  exact wp_l_woven c ok h
end DL

set_option Elab.async false
set_option linter.all false
set_option maxRecDepth 100000
set_option maxHeartbeats 4000000
/-! U3: the promises of led.py and pairs.py by their readings. -/
namespace DL
open PySem L2
end DL

set_option Elab.async false
set_option linter.all false
set_option maxRecDepth 100000
set_option maxHeartbeats 4000000
/-! U4: the promises of striking.py and rowlooks.py by their readings. -/
namespace DL
open PySem L2
end DL

set_option Elab.async false
set_option linter.all false
set_option maxRecDepth 100000
set_option maxHeartbeats 4000000
/-! U5: promises of W39 and W40 by their readings. -/
namespace DL
open PySem L2
end DL

set_option Elab.async false
set_option linter.all false
set_option maxRecDepth 100000
set_option maxHeartbeats 4000000
/-! W42: the law's own makers of houses and nets; what is led. -/
namespace DL
open PySem L2
/-! ### what is led -/
section
variable {r1 l1 r2 l2 : List D} {n m : Nat} {w : List Int}
end
end DL

set_option Elab.async false
set_option linter.all false
set_option maxRecDepth 100000
set_option maxHeartbeats 4000000
/-! DLx3: classes made with two keywords left out whose defaults are the empty tuple. -/
namespace DL
open PySem PySem.Spec PyProof.Rows L2
section
variable {P : Program} {w : World} {K : PySem.W.Frag} {mg : Str → Option Value} {base : Heap} {x qual : Str} {params : Arguments} {body : List Stmt} {scope : Scope} {kws : List (Str × V)} {f : Addr} {fd : FuncData} {ps : List Str} {k : Nat} {S : Spec}
end
end DL

set_option Elab.async false
set_option linter.all false
set_option maxRecDepth 100000
set_option maxHeartbeats 8000000
/-! W98: net == anything; is_net_of of anything. -/
namespace DL
open PySem L2
theorem pu_tie (nm : Str) (is : List Int) : puB (tie nm is) = true := by
  show (true && puBs (is.map D.int)) = true
  have := pu_marks is
  unfold marksT at this
  exact this
theorem pu_ties : ∀ {xs : List D}, (∀ x ∈ xs, ∃ nm is, x = tie nm is) → puBs xs = true
  | [], _ => rfl
  | x :: xs, h => by
    obtain ⟨nm, is, rfl⟩ := h x (.head _)
    show (puB (tie nm is) && puBs xs) = true
    rw [pu_tie, pu_ties fun y hy => h y (.tail _ hy)]; rfl
theorem pu_net {k : Int} {ls bs : List D} (h : NetOk k ls bs) : puB (netT k ls bs) = true ∧ SeqAt.shaped (py (netT k ls bs)) = true := by
  obtain ⟨_, g2, g3⟩ := h.good
  refine ⟨?_, shaped_py g2 (Nat.le_trans g3 (by decide))⟩
  show (true && (puBs ls && (puBs bs && true))) = true
  rw [pu_ties fun x hx => let ⟨nm, is, e, _⟩ := h.lk.each x hx; ⟨nm, is, e⟩, pu_ties fun x hx => let ⟨nm, is, e, _⟩ := h.lb.each x hx; ⟨nm, is, e⟩]
  rfl
theorem isaW_yes {c : Cs} {C O a : Addr} {fs : List (Str × D)} {M : Mp} (h : M a = some (.ins C fs)) : isaW c C O (.ref a) M = some true := by
  unfold isaW insOf
  simp [h]
theorem use_Net_eq (c : Cs) (ds : List D) (M : Mp) (Q : DQ) (z : szs ds) (zm : szM M) (h : S_Net_eq c ds M Q) : (ir_Net_eq c).wp (bodyEnds Q) (startD N_Net_eq ds) M := by
  obtain ⟨a, y, rfl, ⟨b, k, ls, bs, k', ls', bs', rfl, ha, hb, o1, o2, h⟩ | ⟨hi, h⟩⟩ := h
  · show (ir_Net_eq c).wp (bodyEnds Q) [some (.ref a), some (.ref b)] M
    simp only [wW, ir_Net_eq]
    refine ⟨true, isaW_yes hb, ?_⟩
    simp only [Bool.not_true, Bool.false_eq_true, if_false]
    refine ⟨a, _, _, rfl, ha, look_knots, a, _, _, rfl, ha, look_links, a, _, _, rfl, ha, look_labels, ?_⟩
    refine ⟨by simp [sizeLine_eq], b, _, _, rfl, hb, look_knots, b, _, _, rfl, hb, look_links, b, _, _, rfl, hb, look_labels, by simp [sizeLine_eq], ?_⟩
    obtain ⟨p1, s1⟩ := pu_net o1
    obtain ⟨p2, s2⟩ := pu_net o2
    open Classical in
    refine eq_pu (b := decide (netT k ls bs = netT k' ls' bs')) p1 s1 p2 s2 decide_eq_true_iff ?_
    exact h _ decide_eq_true_iff
  · show (ir_Net_eq c).wp (bodyEnds Q) [some (.ref a), some y] M
    simp only [wW, ir_Net_eq]
    refine ⟨false, hi, ?_⟩
    rw [if_pos (by simp)]
    exact h
abbrev N_is_net_of : List Str := ["house", "thing", "rules", "lists", "label", "name", "pairs", "marks", "link"]
def ir_is_net_of (c : Cs) : Ss := (.cons (.ife (.not_ (.isa (.var 1) (.own "Net" c.Net) (isaW c c.Net c.House))) (.cons (.ret (.bl false)) .nil) .nil) (.cons (.asg (.tup (.cons (.name 2) (.cons (.name 3) .nil))) (.tup (.cons (.lc [("name", 5), ("pairs", 6)] (.tup (.cons (.name 5) (.cons (.name 6) .nil))) (.seq (.fld (.var 0) c.House "rules")) .none (.var 5)) (.cons (.lc [("name", 5), ("marks", 7)] (.tup (.cons (.name 5) (.cons (.name 7) .nil))) (.seq (.fld (.var 0) c.House "lists")) .none (.var 5)) .nil)))) (.cons (.ife (.not_ (.bcall .all (.cons (.lc [("link", 8)] (.name 8) (.seq (.fld (.var 1) c.Net "links")) .none (.cmp .In (.idx (.var 8) (.int 0)) (.var 2))) .nil))) (.cons (.ret (.bl false)) .nil) .nil) (.cons (.ret (.bcall .all (.cons (.lc [("label", 4)] (.name 4) (.seq (.fld (.var 1) c.Net "labels")) .none (.cmp .In (.idx (.var 4) (.int 0)) (.var 3))) .nil))) .nil))))
theorem use_is_net_of (c : Cs) (ds : List D) (M : Mp) (Q : DQ) (z : szs ds) (zm : szM M) (h : S_is_net_of c ds M Q) : (ir_is_net_of c).wp (bodyEnds Q) (startD N_is_net_of ds) M := by
  obtain ⟨hh, y, rfl, ⟨t, m, p, q, k, many, rs, ls, ks, bs, rfl, h1, h2, hr, hl, zk, zb, hk, hb, h⟩ | ⟨hi, h⟩⟩ := h
  · show (ir_is_net_of c).wp (bodyEnds Q) [some (.ref hh), some (.ref t), none, none, none, none, none, none, none] M
    have zr : rs.length ≤ sizeLine := by have := hr.len; rw [sizeLine_eq]; omega
    have zl : ls.length ≤ sizeLine := by have := hl.len; rw [sizeLine_eq]; omega
    have good : ∀ {xs : List D}, (∀ x ∈ xs, called x) → ∀ d ∈ xs.map nameD, puB d = true ∧ lay d := fun hc d hd => by
      obtain ⟨x, hx, rfl⟩ := List.mem_map.mp hd
      obtain ⟨nm, e, rfl, hn⟩ := hc x hx
      exact ⟨rfl, lay_name hn⟩
    simp only [wW, ir_is_net_of]
    refine ⟨true, isaW_yes h2, ?_⟩
    simp only [Bool.not_true, Bool.false_eq_true, if_false]
    refine ⟨hh, _, _, rfl, h1, look_rules, _, seqT_t, zr, ?_⟩
    refine lcGo_map (T := ⟨rs, fun _ => True⟩) (M0 := M) (fun x => some (nameD x)) (fun _ _ => trivial) rs M (.refl _) (fun x hx acc M3 kk k3 hkk => ?_) fun M3 k3 p3 hp3 => ?_
    · obtain ⟨nm, e, rfl, hn⟩ := hr.called x hx
      refine ⟨_, rfl, yes_if ?_⟩
      simp only [wW]
      exact hkk M3 k3
    rw [show rs.filterMap (fun x => some (nameD x)) = rs.map nameD by rw [List.filterMap_eq_map']]
    have k4 : Keep M (up M3 p3 (.lst (rs.map nameD))) := k3.trans (.new hp3)
    refine ⟨hh, _, _, rfl, k4 _ _ h1, look_lists, _, seqT_t, zl, ?_⟩
    generalize hM4 : up M3 p3 (.lst (rs.map nameD)) = M4 at k4
    have e4 : M4 p3 = some (.lst (rs.map nameD)) := by rw [← hM4]; exact up_same
    clear hM4
    refine lcGo_map (T := ⟨ls, fun _ => True⟩) (M0 := M4) (fun x => some (nameD x)) (fun _ _ => trivial) ls M4 (.refl _) (fun x hx acc M5 kk k5 hkk => ?_) fun M5 k5 p5 hp5 => ?_
    · obtain ⟨nm, e, rfl, hn⟩ := hl.called x hx
      refine ⟨_, rfl, yes_if ?_⟩
      simp only [wW]
      exact hkk M5 k5
    rw [show ls.filterMap (fun x => some (nameD x)) = ls.map nameD by rw [List.filterMap_eq_map']]
    have k6 : Keep M4 (up M5 p5 (.lst (ls.map nameD))) := k5.trans (.new hp5)
    generalize hM6 : up M5 p5 (.lst (ls.map nameD)) = M6 at k6
    have e6 : M6 p5 = some (.lst (ls.map nameD)) := by rw [← hM6]; exact up_same
    clear hM6
    refine ⟨by simp [sizeLine_eq], ?_⟩
    open Classical in
    refine ⟨t, _, _, rfl, k6 _ _ (k4 _ _ h2), look_links, _, seqT_t, zk, ?_⟩
    refine all_go (T := ⟨ks, fun _ => True⟩) (fun x => decide (nameD x ∈ rs.map nameD)) (fun _ _ => trivial) (fun x hx M7 kk k7 hkk => ⟨_, rfl, ?_⟩) fun M7 k7 => ?_
    · obtain ⟨nm, is, rfl, hm⟩ := hk x hx
      simp only [wW]
      refine ix_t 0 rfl ?_
      exact in_pu (.inr ⟨p3, rfl, k7 _ _ (k6 _ _ e4)⟩) rfl (shaped_py (lay_name hm) (by simp [py, PyData.depth])) (good hr.called) decide_eq_true_iff (hkk M7 k7)
    refine ⟨_, rfl, ?_⟩
    by_cases ea : (ks.all fun x => decide (nameD x ∈ rs.map nameD)) = true
    · rw [ea, if_neg (by simp)]
      refine ⟨t, _, _, rfl, k7 _ _ (k6 _ _ (k4 _ _ h2)), look_labels, _, seqT_t, zb, ?_⟩
      refine all_go (T := ⟨bs, fun _ => True⟩) (fun x => decide (nameD x ∈ ls.map nameD)) (fun _ _ => trivial) (fun x hx M8 kk k8 hkk => ⟨_, rfl, ?_⟩) fun M8 k8 => ?_
      · obtain ⟨nm, is, rfl, hm⟩ := hb x hx
        simp only [wW]
        refine ix_t 0 rfl ?_
        exact in_pu (.inr ⟨p5, rfl, k8 _ _ (k7 _ _ e6)⟩) rfl (shaped_py (lay_name hm) (by simp [py, PyData.depth])) (good hl.called) decide_eq_true_iff (hkk M8 k8)
      refine h M8 _ (k4.trans (k6.trans (k7.trans k8))) ?_
      rw [List.all_eq_true] at ea ⊢
      exact ⟨fun z => ⟨fun x hx => of_decide_eq_true (ea x hx), fun x hx => of_decide_eq_true (z x hx)⟩, fun z x hx => decide_eq_true (z.2 x hx)⟩
    · have ef : (ks.all fun x => decide (nameD x ∈ rs.map nameD)) = false := by simpa using ea
      rw [ef, if_pos (by simp)]
      refine h M7 false (k4.trans (k6.trans k7)) ⟨fun z => (by cases z), fun z => absurd (List.all_eq_true.mpr fun x hx => decide_eq_true (z.1 x hx)) ea⟩
  · show (ir_is_net_of c).wp (bodyEnds Q) [some (.ref hh), some y, none, none, none, none, none, none, none] M
    simp only [wW, ir_is_net_of]
    refine ⟨false, hi, ?_⟩
    rw [if_pos (by simp)]
    exact h
end DL

set_option Elab.async false
set_option linter.all false
set_option maxRecDepth 100000
set_option maxHeartbeats 8000000
/-! W93: ties as data: sets of them, sorted; lots as sets of marks that some lots have. -/
namespace DL
open PySem L2
/-! ### sorted(set(ties)) -/
def TieD (many : Int) (n : Nat) (y : D) : Prop := ∃ nm is, y = tie nm is ∧ is.length = n ∧ nameS nm = true ∧ ∀ i ∈ is, 0 ≤ i ∧ i ≤ many - 1
theorem TieD.wider {many m2 : Int} {n : Nat} {y : D} (h : TieD many n y) (hm : many ≤ m2) : TieD m2 n y := let ⟨nm, is, e, a, b, c⟩ := h; ⟨nm, is, e, a, b, fun i hi => ⟨(c i hi).1, by have := (c i hi).2; omega⟩⟩
theorem TiesOk.wider {many m2 : Int} {n : Nat} {xs : List D} (h : TiesOk many n xs) (hm : many ≤ m2) : TiesOk m2 n xs := ⟨fun x hx => TieD.wider (h.each x hx) hm, h.rise⟩
theorem tie_keys {many : Int} {n : Nat} : ∀ {xs : List D}, (∀ y ∈ xs, TieD many n y) → ∃ L : List (List Key), xs = L.map keyT ∧ ∀ k ∈ L, ∃ nm is, k = tkey nm is ∧ is.length = n ∧ nameS nm = true ∧ ∀ i ∈ is, 0 ≤ i ∧ i ≤ many - 1
  | [], _ => ⟨[], rfl, fun _ h => nomatch h⟩
  | x :: xs, h => by
    obtain ⟨L, e, hL⟩ := tie_keys fun y hy => h y (.tail _ hy)
    obtain ⟨nm, is, rfl, r⟩ := h x (.head _)
    refine ⟨tkey nm is :: L, by rw [List.map_cons, keyT_tkey, e], fun k hk => ?_⟩
    rcases List.mem_cons.mp hk with rfl | hk
    · exact ⟨nm, is, rfl, r⟩
    · exact hL k hk
theorem ss_ties {many : Int} {n : Nat} {x : D} {xs : List D} {M : Mp} {Q : DQ} (hs : seqD M x xs) (few : xs.length < 64) (he : ∀ y ∈ xs, TieD many n y)
    (h : ∀ ys p, TiesOk many n ys → ys.length ≤ xs.length → (∀ y, y ∈ ys ↔ y ∈ xs) → M p = none → Q (.ref p) (up M p (.lst ys))) : ssK x M Q := by
  obtain ⟨L, rfl, hL⟩ := tie_keys he
  refine ⟨L, hs, by simpa using few, fun d hd d' hd' => ?_, fun k hk => ?_, fun k hk => ?_, fun L2 p nd mem hp => ?_⟩
  · obtain ⟨y, h1, rfl⟩ := List.mem_map.mp hd
    obtain ⟨z, h2, rfl⟩ := List.mem_map.mp hd'
    obtain ⟨nm, is, e1, _⟩ := he y h1
    obtain ⟨nm', js, e2, _⟩ := he z h2
    rw [e1, e2]
    exact (cmpP_tie nm nm' is js).2.2.1
  · obtain ⟨nm, is, rfl, _⟩ := hL k hk
    unfold tkey
    simp
  · obtain ⟨nm, is, rfl, _⟩ := hL k hk
    rw [keyT_tkey]
    exact Nat.le_trans (dep_tie nm is) (by decide)
  · have tk : TKeys ((L.map keyT).map nameD) many n (L2.map fun k => (k, D.bl true)) := by
      refine ⟨by rw [List.map_map, show (Prod.fst ∘ fun k => (k, D.bl true)) = (id : List Key → List Key) from rfl, List.map_id]; exact nd, fun q hq => ?_⟩
      obtain ⟨k, hk, rfl⟩ := List.mem_map.mp hq
      obtain ⟨nm, is, rfl, a, _, b⟩ := hL k ((mem k).mp hk)
      exact ⟨nm, is, rfl, a, List.mem_map.mpr ⟨_, List.mem_map_of_mem ((mem _).mp hk), by rw [keyT_tkey]; rfl⟩, b⟩
    have ok := tk.ok fun y hy => by
      obtain ⟨z, hz, rfl⟩ := List.mem_map.mp hy
      obtain ⟨nm, is, rfl, _, a, _⟩ := he z hz
      exact a
    have et : tiesK (L2.map fun k => (k, D.bl true)) = L2.map keyT := by unfold tiesK; rw [List.map_map]; rfl
    rw [et] at ok
    refine h _ p ok ?_ (fun y => ?_) hp
    · rw [len_sort, List.length_map, List.length_map]
      exact nodup_le nd fun k hk => (mem k).mp hk
    · rw [mem_sort, List.mem_map, List.mem_map]
      exact ⟨fun ⟨k, hk, e⟩ => ⟨k, (mem k).mp hk, e⟩, fun ⟨k, hk, e⟩ => ⟨k, (mem k).mpr hk, e⟩⟩
theorem lk_tie {l : Lk} : lkD l = tie l.1 [(l.2.1 : Int), (l.2.2 : Int)] := rfl
theorem lb_tie {b : Lb} : lbD b = tie b.1 [(b.2 : Int)] := rfl
theorem TiesOk.nameL {many : Int} {lks : List Lk} (h : TiesOk many 2 (lks.map lkD)) : ∀ l ∈ lks, nameS l.1 = true := fun l hl => by
  obtain ⟨nm, is, e, _, hn, _⟩ := h.each _ (List.mem_map_of_mem hl)
  rw [lk_tie] at e
  unfold tie at e
  injection e with e
  injection e with e1 e2
  injection e1 with e1
  rw [e1]; exact hn
theorem all_map {α : Type} {f : α → D} : ∀ {ys : List D}, (∀ y ∈ ys, ∃ a, y = f a) → ∃ as : List α, ys = as.map f
  | [], _ => ⟨[], rfl⟩
  | y :: ys, h => by
    obtain ⟨a, rfl⟩ := h y (.head _)
    obtain ⟨as, rfl⟩ := all_map fun z hz => h z (.tail _ hz)
    exact ⟨a :: as, rfl⟩
theorem lk_tieD {l : Lk} {k : Nat} (hn : nameS l.1 = true) (h1 : l.2.1 < k) (h2 : l.2.2 < k) : TieD (k : Int) 2 (lkD l) := ⟨l.1, [(l.2.1 : Int), (l.2.2 : Int)], lk_tie, rfl, hn, fun q hq => by
  simp only [List.mem_cons, List.not_mem_nil, or_false] at hq
  rcases hq with rfl | rfl <;> omega⟩
theorem lb_tieD {l : Lb} {k : Nat} (hn : nameS l.1 = true) (h1 : l.2 < k) : TieD (k : Int) 1 (lbD l) := ⟨l.1, [(l.2 : Int)], lb_tie, rfl, hn, fun q hq => by
  rw [List.mem_singleton.mp hq]; omega⟩
/-- links told once each -/
theorem ss_lk {k : Nat} {x : D} {L : List Lk} {M : Mp} {K : DQ} (hs : seqD M x (L.map lkD)) (few : L.length < 64) (hn : ∀ l ∈ L, nameS l.1 = true ∧ l.2.1 < k ∧ l.2.2 < k)
    (h : ∀ (lks : List Lk) (p : Addr), TiesOk (k : Int) 2 (lks.map lkD) → lks.length ≤ L.length → (∀ l, l ∈ lks ↔ l ∈ L) → M p = none → K (.ref p) (up M p (.lst (lks.map lkD)))) : ssK x M K := by
  refine ss_ties (many := (k : Int)) (n := 2) hs (by rw [List.length_map]; exact few) (fun y hy => ?_) fun ys p ok le mem hp => ?_
  · obtain ⟨l, hl, rfl⟩ := List.mem_map.mp hy
    exact lk_tieD (hn l hl).1 (hn l hl).2.1 (hn l hl).2.2
  · rw [List.length_map] at le
    obtain ⟨lks, rfl⟩ := all_map (f := lkD) fun y hy => by
      obtain ⟨l, _, e⟩ := List.mem_map.mp ((mem y).mp hy)
      exact ⟨l, e.symm⟩
    rw [List.length_map] at le
    refine h lks p ok le (fun l => ?_) hp
    have := mem (lkD l)
    rw [List.mem_map, List.mem_map] at this
    exact ⟨fun hl => by obtain ⟨l2, h2, e⟩ := this.mp ⟨l, hl, rfl⟩; rw [← lk_inj e]; exact h2, fun hl => by obtain ⟨l2, h2, e⟩ := this.mpr ⟨l, hl, rfl⟩; rw [← lk_inj e]; exact h2⟩
theorem ss_lb {k : Nat} {x : D} {L : List Lb} {M : Mp} {K : DQ} (hs : seqD M x (L.map lbD)) (few : L.length < 64) (hn : ∀ l ∈ L, nameS l.1 = true ∧ l.2 < k)
    (h : ∀ (lbs : List Lb) (p : Addr), TiesOk (k : Int) 1 (lbs.map lbD) → lbs.length ≤ L.length → (∀ l, l ∈ lbs ↔ l ∈ L) → M p = none → K (.ref p) (up M p (.lst (lbs.map lbD)))) : ssK x M K := by
  refine ss_ties (many := (k : Int)) (n := 1) hs (by rw [List.length_map]; exact few) (fun y hy => ?_) fun ys p ok le mem hp => ?_
  · obtain ⟨l, hl, rfl⟩ := List.mem_map.mp hy
    exact lb_tieD (hn l hl).1 (hn l hl).2
  · rw [List.length_map] at le
    obtain ⟨lks, rfl⟩ := all_map (f := lbD) fun y hy => by
      obtain ⟨l, _, e⟩ := List.mem_map.mp ((mem y).mp hy)
      exact ⟨l, e.symm⟩
    rw [List.length_map] at le
    refine h lks p ok le (fun l => ?_) hp
    have := mem (lbD l)
    rw [List.mem_map, List.mem_map] at this
    exact ⟨fun hl => by obtain ⟨l2, h2, e⟩ := this.mp ⟨l, hl, rfl⟩; rw [← lb_inj e]; exact h2, fun hl => by obtain ⟨l2, h2, e⟩ := this.mpr ⟨l, hl, rfl⟩; rw [← lb_inj e]; exact h2⟩
theorem TiesOk.nameB {many : Int} {lbs : List Lb} (h : TiesOk many 1 (lbs.map lbD)) : ∀ l ∈ lbs, nameS l.1 = true := fun l hl => by
  obtain ⟨nm, is, e, _, hn, _⟩ := h.each _ (List.mem_map_of_mem hl)
  rw [lb_tie] at e
  unfold tie at e
  injection e with e
  injection e with e1 e2
  injection e1 with e1
  rw [e1]; exact hn
/-! ### the greatest lots, mark by mark -/
section
variable {rs ls : List D} {lks : List Lk} {lbs : List Lb} {B L : Lots}
end
end DL

set_option Elab.async false
set_option linter.all false
set_option maxRecDepth 100000
set_option maxHeartbeats 8000000
/-! W94: more links, more knots, nets side by side, knots called otherwise (no program here). -/
namespace DL
open PySem L2
section
variable {rs ls : List D} {n : Nat}
/-! ### knots called otherwise -/
structure Calls (k : Nat) (f g : Nat → Nat) : Prop where
  lt : ∀ i, i < k → f i < k
  back : ∀ i, i < k → g (f i) = i
  lt' : ∀ j, j < k → g j < k
  back' : ∀ j, j < k → f (g j) = j
end
/-! ### rows called otherwise -/
section
variable {rs ls rs2 ls2 : List D} {n K n2 K2 : Nat} {lks lks2 : List Lk} {lbs lbs2 : List Lb}
end
section
variable {rs ls : List D} {n k : Nat} {lks lkC : List Lk} {lbs lbC : List Lb}
end
end DL

set_option Elab.async false
set_option linter.all false
set_option maxRecDepth 100000
set_option maxHeartbeats 8000000
/-! W96: comprehensions row by row; nets made by keywords; ties sorted. -/
namespace DL
open PySem L2
end DL

set_option Elab.async false
set_option linter.all false
set_option maxRecDepth 100000
set_option maxHeartbeats 8000000
/-! V04: law k04: whose nets they are. -/
namespace DL
open PySem L2
/-- a net's values -/
def IsMesh (d : D) : Prop := ∃ k : Nat, ∃ lks : List Lk, ∃ lbs : List Lb, d = meshT (k : Int) (lks.map lkD) (lbs.map lbD) ∧ NetOk (k : Int) (lks.map lkD) (lbs.map lbD)
theorem mesh_is {k : Nat} {lks : List Lk} {lbs : List Lb} (h : NetOk (k : Int) (lks.map lkD) (lbs.map lbD)) : IsMesh (meshT (k : Int) (lks.map lkD) (lbs.map lbD)) := ⟨k, lks, lbs, rfl, h⟩
def S_l_others (_ : Cs) : Spec := fun ds M Q => ∃ p, ∃ n : Int, ∃ rs ls : List D, ∃ k : Nat, ∃ lks lbs, ds = [.ref p, homeT n rs ls, meshT (k : Int) (List.map lkD lks) (List.map lbD lbs)] ∧ M p = some .pot ∧ RulesOk n rs ∧ ListsOk n ls ∧ NetOk (k : Int) (List.map lkD lks) (List.map lbD lbs) ∧ (∀ l ∈ lks, l.2.1 < k ∧ l.2.2 < k) ∧ (∀ b ∈ lbs, b.2 < k) ∧ lks.length ≤ 20 ∧ lbs.length ≤ 20 ∧ k ≤ 20 ∧
  ∀ M' q ms, Keep M M' → M q = none → M' q = some (.lst ms) → ms.length ≤ 6 → (∀ d ∈ ms, IsMesh d) → Q (.ref q) M'
abbrev N_l_others : List Str := ["_law_pot_here", "_law_home_here", "_law_mesh_here", "_law_names_here", "_law_some", "_law_many", "_law_found", "_law_named", "_law_tie", "_law_one"]
def ir_l_others (c : Cs) : Ss := (.cons (.asg (.tup (.cons (.name 5) (.cons (.name 6) (.cons (.name 7) .nil)))) (.var 2)) (.cons (.asg (.name 3) (.bin .Add (.lc [("_law_one", 9)] (.name 9) (.seq (.bin .Add (.idx (.var 1) (.int 1)) (.idx (.var 1) (.int 2)))) .none (.idx (.var 9) (.int 0))) (.lst (.cons (.str "q") (.cons (.str "zzz") .nil))))) (.cons (.asg (.name 4) (.lst (.cons (.tup (.cons (.bin .Add (.var 5) (.int 1)) (.cons (.var 6) (.cons (.var 7) .nil)))) (.cons (.tup (.cons (.var 5) (.cons (.slc (.var 6) .none (.some (.neg (.int 1)))) (.cons (.var 7) .nil)))) (.cons (.tup (.cons (.var 5) (.cons (.var 6) (.cons (.slc (.var 7) (.some (.int 1)) .none) .nil)))) (.cons (.var 2) .nil)))))) (.cons (.ife (.cmp .Gt (.var 5) (.int 0)) (.cons (.asg (.name 8) (.tup (.cons (.call "_law_of" (S_l_of c) (.cons (.var 0) (.cons (.var 3) .nil))) (.cons (.call "_law_take" (S_l_take c) (.cons (.var 0) (.cons (.var 5) .nil))) (.cons (.call "_law_take" (S_l_take c) (.cons (.var 0) (.cons (.var 5) .nil))) .nil))))) (.cons (.expr (.bm .append (.var 4) (.cons (.tup (.cons (.var 5) (.cons (.bcall .tuple (.cons (.ssK (.bin .Add (.var 6) (.tup (.cons (.var 8) .nil)))) .nil)) (.cons (.var 7) .nil)))) .nil))) (.cons (.expr (.bm .append (.var 4) (.cons (.tup (.cons (.var 5) (.cons (.var 6) (.cons (.bcall .tuple (.cons (.ssK (.bin .Add (.var 7) (.tup (.cons (.slc (.var 8) .none (.some (.int 2))) .nil)))) .nil)) .nil)))) .nil))) .nil))) .nil) (.cons (.ret (.var 4)) .nil)))))
theorem wp_l_others (c : Cs) {p : Addr} {n : Int} {rs ls : List D} {k : Nat} {lks : List Lk} {lbs : List Lb} {M : Mp} {Q : DQ} (hp : M p = some .pot) (okr : RulesOk n rs) (okl : ListsOk n ls) (nok : NetOk (k : Int) (lks.map lkD) (lbs.map lbD)) (tk : ∀ l ∈ lks, l.2.1 < k ∧ l.2.2 < k) (tb : ∀ b ∈ lbs, b.2 < k) (z1 : lks.length ≤ 20) (z2 : lbs.length ≤ 20) (k20 : k ≤ 20)
    (h : ∀ M' q ms, Keep M M' → M q = none → M' q = some (.lst ms) → ms.length ≤ 6 → (∀ d ∈ ms, IsMesh d) → Q (.ref q) M') :
    (ir_l_others c).wp (bodyEnds Q) [some (.ref p), some (homeT n rs ls), some (meshT (k : Int) (lks.map lkD) (lbs.map lbD)), none, none, none, none, none, none, none] M := by
  have zr := okr.len
  have zl := okl.len
  simp only [wX, ir_l_others, homeT, meshT]
  refine ⟨by rw [sizeLine_eq]; omega, ?_⟩
  refine ⟨_, seqT_t, by show (rs ++ ls).length ≤ sizeLine; rw [List.length_append, sizeLine_eq]; omega, ?_⟩
  refine lcGo_map (T := ⟨rs ++ ls, fun _ => True⟩) (M0 := M) (fun x => some (nameD x)) (fun _ _ => trivial) (rs ++ ls) M (.refl _) (fun x hx acc M1 kk k1 hkk => ?_) fun M1 k1 q1 hq1 => ?_
  · have hc : called x := by
      rcases List.mem_append.mp hx with h | h
      · exact okr.called x h
      · exact okl.called x h
    obtain ⟨nm, e, rfl, hn⟩ := hc
    refine ⟨_, asn_name, yes_if ?_⟩
    simp only [wX, List.set_cons_succ, List.set_cons_zero]
    exact hkk M1 k1
  rw [List.filterMap_eq_map']
  have k2 : Keep M (up M1 q1 (.lst ((rs ++ ls).map nameD))) := k1.trans (.new hq1)
  have e2 : (up M1 q1 (.lst ((rs ++ ls).map nameD))) q1 = some (.lst ((rs ++ ls).map nameD)) := up_same
  generalize up M1 q1 (.lst ((rs ++ ls).map nameD)) = M2 at k2 e2 ⊢
  refine ⟨by show 2 ≤ sizeLine; rw [sizeLine_eq]; omega, fun q2 hq2 => ?_⟩
  refine ⟨_, _, by rw [up_ne (fun z => by rw [z, hq2] at e2; cases e2)]; exact e2, up_same, by rw [List.length_map, List.length_append, sizeLine_eq]; show _ + 2 ≤ _; omega, fun q3 hq3 => ?_⟩
  have nms : ∀ x ∈ (rs ++ ls).map nameD ++ [D.str (Str.ofString "q"), D.str (Str.ofString "zzz")], ∃ nm : Str, x = .str nm ∧ nameS nm = true := fun x hx => by
    rcases List.mem_append.mp hx with hx | hx
    · obtain ⟨y, hy, rfl⟩ := List.mem_map.mp hx
      have hc : called y := by
        rcases List.mem_append.mp hy with h | h
        · exact okr.called y h
        · exact okl.called y h
      obtain ⟨nm, e, rfl, hn⟩ := hc
      exact ⟨nm, rfl, hn⟩
    · rcases List.mem_cons.mp hx with rfl | hx
      · exact ⟨_, rfl, by decide +kernel⟩
      · rcases List.mem_cons.mp hx with rfl | hx
        · exact ⟨_, rfl, by decide +kernel⟩
        · cases hx
  have k3 : Keep M (up (up M2 q2 (.lst [D.str (Str.ofString "q"), D.str (Str.ofString "zzz")])) q3 (.lst ((rs ++ ls).map nameD ++ [D.str (Str.ofString "q"), D.str (Str.ofString "zzz")]))) := (k2.trans (.new hq2)).trans (.new hq3)
  have e3 : (up (up M2 q2 (.lst [D.str (Str.ofString "q"), D.str (Str.ofString "zzz")])) q3 (.lst ((rs ++ ls).map nameD ++ [D.str (Str.ofString "q"), D.str (Str.ofString "zzz")]))) q3 = some (.lst ((rs ++ ls).map nameD ++ [D.str (Str.ofString "q"), D.str (Str.ofString "zzz")])) := up_same
  have zn : ((rs ++ ls).map nameD ++ [D.str (Str.ofString "q"), D.str (Str.ofString "zzz")]).length ≤ 11 := by
    rw [List.length_append, List.length_map, List.length_append]
    show _ + 2 ≤ _
    omega
  have nn : (rs ++ ls).map nameD ++ [D.str (Str.ofString "q"), D.str (Str.ofString "zzz")] ≠ [] := fun z => by
    have := congrArg List.length z
    rw [List.length_append] at this
    exact absurd this (by show _ + 2 ≠ 0; omega)
  generalize (rs ++ ls).map nameD ++ [D.str (Str.ofString "q"), D.str (Str.ofString "zzz")] = names at nms e3 k3 zn nn ⊢
  generalize up (up M2 q2 (.lst [D.str (Str.ofString "q"), D.str (Str.ofString "zzz")])) q3 (.lst names) = M3 at k3 e3 ⊢
  refine ⟨by show 3 ≤ sizeLine; rw [sizeLine_eq]; omega, ?_⟩
  refine slD_t rfl ⟨by show 3 ≤ sizeLine; rw [sizeLine_eq]; omega, ?_⟩
  refine slD_t rfl ⟨by show 3 ≤ sizeLine; rw [sizeLine_eq]; omega, by show 4 ≤ sizeLine; rw [sizeLine_eq]; omega, fun q4 hq4 => ?_⟩
  have wide : NetOk ((k + 1 : Nat) : Int) (lks.map lkD) (lbs.map lbD) := ⟨by omega, by omega, nok.ll, nok.bl, nok.lk.wider (by omega), nok.lb.wider (by omega)⟩
  have m0 : ∀ x ∈ [D.tup [.int ((k : Int) + 1), .tup (lks.map lkD), .tup (lbs.map lbD)], .tup [.int k, .tup (cutL (lks.map lkD) none (some (-1))), .tup (lbs.map lbD)], .tup [.int k, .tup (lks.map lkD), .tup (cutL (lbs.map lbD) (some 1) none)], .tup [.int k, .tup (lks.map lkD), .tup (lbs.map lbD)]], IsMesh x := fun x hx => by
    have s1 : cutL (lks.map lkD) none (some (-1)) = (cutL lks none (some (-1))).map lkD := by simp only [cutL, List.map_drop, List.map_take, List.length_map]
    have s2 : cutL (lbs.map lbD) (some 1) none = (cutL lbs (some 1) none).map lbD := by simp only [cutL, List.map_drop, List.map_take, List.length_map]
    have sub1 : (cutL (lks.map lkD) none (some (-1))).Sublist (lks.map lkD) := (List.take_sublist _ _).trans (List.drop_sublist _ _)
    have sub2 : (cutL (lbs.map lbD) (some 1) none).Sublist (lbs.map lbD) := (List.take_sublist _ _).trans (List.drop_sublist _ _)
    rcases List.mem_cons.mp hx with rfl | hx
    · exact ⟨k + 1, lks, lbs, rfl, wide⟩
    · rcases List.mem_cons.mp hx with rfl | hx
      · rw [s1]
        refine ⟨k, _, lbs, rfl, ⟨nok.k0, nok.k1, ?_, nok.bl, ?_, nok.lb⟩⟩
        · rw [← s1]; exact Nat.le_trans sub1.length_le nok.ll
        · rw [← s1]; exact nok.lk.sub sub1
      · rcases List.mem_cons.mp hx with rfl | hx
        · rw [s2]
          refine ⟨k, lks, _, rfl, ⟨nok.k0, nok.k1, nok.ll, ?_, nok.lk, ?_⟩⟩
          · rw [← s2]; exact Nat.le_trans sub2.length_le nok.bl
          · rw [← s2]; exact nok.lb.sub sub2
        · rcases List.mem_cons.mp hx with rfl | hx
          · exact ⟨k, lks, lbs, rfl, nok⟩
          · cases hx
  have nq4 : M q4 = none := k3.none hq4
  generalize hL0 : [D.tup [.int ((k : Int) + 1), .tup (lks.map lkD), .tup (lbs.map lbD)], .tup [.int k, .tup (cutL (lks.map lkD) none (some (-1))), .tup (lbs.map lbD)], .tup [.int k, .tup (lks.map lkD), .tup (cutL (lbs.map lbD) (some 1) none)], .tup [.int k, .tup (lks.map lkD), .tup (lbs.map lbD)]] = L0 at m0 ⊢
  have z0 : L0.length = 4 := by rw [← hL0]; rfl
  clear hL0
  by_cases hk : 0 < k
  · rw [if_pos (by simpa using hk)]
    have k4 : Keep M3 (up M3 q4 (.lst L0)) := .new hq4
    have e4 : (up M3 q4 (.lst L0)) q4 = some (.lst L0) := up_same
    generalize hM4 : up M3 q4 (.lst L0) = M4 at k4 e4
    refine ⟨p, q3, names, rfl, k4 _ _ (k3 _ _ hp), k4 _ _ e3, nn, by omega, fun x hx => ?_⟩
    obtain ⟨nm, rfl, hnm⟩ := nms x hx
    refine ⟨p, k, rfl, k4 _ _ (k3 _ _ hp), by omega, by omega, fun i1 i0 i2 => ⟨p, k, rfl, k4 _ _ (k3 _ _ hp), by omega, by omega, fun j1 j0 j2 => ?_⟩⟩
    obtain ⟨i, rfl⟩ : ∃ i : Nat, i1 = (i : Int) := ⟨i1.toNat, by omega⟩
    obtain ⟨j, rfl⟩ : ∃ j : Nat, j1 = (j : Int) := ⟨j1.toNat, by omega⟩
    have e5 : [D.tup [D.str nm, D.int (i : Int), D.int (j : Int)]] = [((nm, i, j) : Lk)].map lkD := rfl
    refine ⟨by show 3 ≤ sizeLine; rw [sizeLine_eq]; omega, .inl ⟨rfl, _, e4⟩, by show 1 ≤ sizeLine; rw [sizeLine_eq]; omega, by rw [List.length_map, sizeLine_eq]; show _ + 1 ≤ _; omega, ?_⟩
    rw [e5, ← List.map_append]
    refine ss_lk (k := k) (.inl rfl) (by rw [List.length_append]; show _ + 1 < _; omega) (fun l hl => ?_) fun lk2 p5 ok5 le5 mem5 hp5 => ?_
    · rcases List.mem_append.mp hl with h | h
      · exact ⟨nok.lk.nameL l h, tk l h⟩
      · obtain rfl := List.mem_singleton.mp h
        exact ⟨hnm, by show i < k; omega, by show j < k; omega⟩
    rw [List.length_append] at le5
    have le5 : lk2.length ≤ lks.length + 1 := le5
    have k5 : Keep M4 (up M4 p5 (.lst (lk2.map lkD))) := .new hp5
    have e6 : (up M4 p5 (.lst (lk2.map lkD))) p5 = some (.lst (lk2.map lkD)) := up_same
    generalize up M4 p5 (.lst (lk2.map lkD)) = M5 at k5 e6
    refine ⟨_, _, rfl, .inr ⟨p5, rfl, e6⟩, by show 3 ≤ sizeLine; rw [sizeLine_eq]; omega, ?_⟩
    refine ⟨q4, L0, _, rfl, rfl, k5 _ _ e4, by rw [z0, sizeLine_eq]; omega, ?_⟩
    have e7 : (up M5 q4 (.lst (L0 ++ [.tup [.int k, .tup (lk2.map lkD), .tup (lbs.map lbD)]]))) q4 = some (.lst (L0 ++ [.tup [.int k, .tup (lk2.map lkD), .tup (lbs.map lbD)]])) := up_same
    have k6 : Keep M (up M5 q4 (.lst (L0 ++ [.tup [.int k, .tup (lk2.map lkD), .tup (lbs.map lbD)]]))) := (k3.trans (k4.trans k5)).put nq4
    generalize up M5 q4 (.lst (L0 ++ [.tup [.int k, .tup (lk2.map lkD), .tup (lbs.map lbD)]])) = M6 at e7 k6 ⊢
    refine ⟨.inl ⟨rfl, _, e7⟩, ?_⟩
    refine slD_t (ds' := [D.str nm, D.int (i : Int)]) rfl ?_
    have e8 : [D.tup [D.str nm, D.int (i : Int)]] = [((nm, i) : Lb)].map lbD := rfl
    refine ⟨by show 1 ≤ sizeLine; rw [sizeLine_eq]; omega, by rw [List.length_map, sizeLine_eq]; show _ + 1 ≤ _; omega, ?_⟩
    rw [e8, ← List.map_append]
    refine ss_lb (k := k) (.inl rfl) (by rw [List.length_append]; show _ + 1 < _; omega) (fun l hl => ?_) fun lb2 p7 ok7 le7 mem7 hp7 => ?_
    · rcases List.mem_append.mp hl with h | h
      · exact ⟨nok.lb.nameB l h, tb l h⟩
      · obtain rfl := List.mem_singleton.mp h
        exact ⟨hnm, by show i < k; omega⟩
    rw [List.length_append] at le7
    have le7 : lb2.length ≤ lbs.length + 1 := le7
    have k7 : Keep M6 (up M6 p7 (.lst (lb2.map lbD))) := .new hp7
    have e9 : (up M6 p7 (.lst (lb2.map lbD))) p7 = some (.lst (lb2.map lbD)) := up_same
    generalize up M6 p7 (.lst (lb2.map lbD)) = M7 at k7 e9
    refine ⟨_, _, rfl, .inr ⟨p7, rfl, e9⟩, by show 3 ≤ sizeLine; rw [sizeLine_eq]; omega, ?_⟩
    refine ⟨q4, _, _, rfl, rfl, k7 _ _ e7, by rw [List.length_append, z0, sizeLine_eq]; show 4 + 1 < _; omega, ?_⟩
    refine h _ q4 _ ((k6.trans k7).put nq4) nq4 up_same (by rw [List.length_append, List.length_append, z0]; show 4 + 1 + 1 ≤ 6; omega) fun d hd => ?_
    rcases List.mem_append.mp hd with hd | hd
    · rcases List.mem_append.mp hd with hd | hd
      · exact m0 d hd
      · obtain rfl := List.mem_singleton.mp hd
        exact ⟨k, lk2, lbs, rfl, ⟨nok.k0, nok.k1, by rw [List.length_map]; omega, nok.bl, ok5, nok.lb⟩⟩
    · obtain rfl := List.mem_singleton.mp hd
      exact ⟨k, lks, lb2, rfl, ⟨nok.k0, nok.k1, nok.ll, by rw [List.length_map]; omega, nok.lk, ok7⟩⟩
  · rw [if_neg (by simpa using hk)]
    exact h _ q4 L0 (k3.trans (.new hq4)) nq4 up_same (by omega) m0
theorem use_l_others (c : Cs) (ds : List D) (M : Mp) (Q : DQ) (z : szs ds) (zm : szM M) (h : S_l_others c ds M Q) : (ir_l_others c).wp (bodyEnds Q) (startD N_l_others ds) M := by
  obtain ⟨p, n, rs, ls, k, lks, lbs, rfl, a1, a2, a3, a4, a5, a6, a7, a8, a9, h⟩ := h
  exact wp_l_others c a1 a2 a3 a4 a5 a6 a7 a8 a9 h
/-! ### what is due -/
def S_l_due (_ : Cs) : Spec := fun ds M Q => ∃ n : Int, ∃ rs ls ks bs : List D, ∃ k, ds = [homeT n rs ls, meshT k ks bs] ∧ RulesOk n rs ∧ ListsOk n ls ∧ NetOk k ks bs ∧ ∀ M' (e : Bool), Keep M M' → (e = true ↔ (∀ x ∈ ks, nameD x ∈ rs.map nameD) ∧ ∀ x ∈ bs, nameD x ∈ ls.map nameD) → Q (.bl e) M'
abbrev N_l_due : List Str := ["_law_home_here", "_law_mesh_here", "_law_ruled", "_law_listed", "_law_one"]
def ir_l_due (c : Cs) : Ss := (.cons (.asg (.tup (.cons (.name 2) (.cons (.name 3) .nil))) (.tup (.cons (.lc [("_law_one", 4)] (.name 4) (.seq (.idx (.var 0) (.int 1))) .none (.idx (.var 4) (.int 0))) (.cons (.lc [("_law_one", 4)] (.name 4) (.seq (.idx (.var 0) (.int 2))) .none (.idx (.var 4) (.int 0))) .nil)))) (.cons (.ife (.not_ (.bcall .all (.cons (.lc [("_law_one", 4)] (.name 4) (.seq (.idx (.var 1) (.int 1))) .none (.cmp .In (.idx (.var 4) (.int 0)) (.var 2))) .nil))) (.cons (.ret (.bl false)) .nil) .nil) (.cons (.ret (.bcall .all (.cons (.lc [("_law_one", 4)] (.name 4) (.seq (.idx (.var 1) (.int 2))) .none (.cmp .In (.idx (.var 4) (.int 0)) (.var 3))) .nil))) .nil)))
theorem wp_l_due (c : Cs) {n k : Int} {rs ls ks bs : List D} {M : Mp} {Q : DQ} (okr : RulesOk n rs) (okl : ListsOk n ls) (nok : NetOk k ks bs) (h : ∀ M' (e : Bool), Keep M M' → (e = true ↔ (∀ x ∈ ks, nameD x ∈ rs.map nameD) ∧ ∀ x ∈ bs, nameD x ∈ ls.map nameD) → Q (.bl e) M') :
    (ir_l_due c).wp (bodyEnds Q) [some (homeT n rs ls), some (meshT k ks bs), none, none, none] M := by
  have zr := okr.len
  have zl := okl.len
  have zk := nok.ll
  have zb := nok.bl
  have good : ∀ {xs : List D}, (∀ x ∈ xs, called x) → ∀ d ∈ xs.map nameD, puB d = true ∧ lay d := fun hc d hd => by
    obtain ⟨x, hx, rfl⟩ := List.mem_map.mp hd
    obtain ⟨nm, e, rfl, hn⟩ := hc x hx
    exact ⟨rfl, lay_name hn⟩
  simp only [wX, ir_l_due, homeT, meshT]
  refine ⟨_, seqT_t, by show rs.length ≤ sizeLine; rw [sizeLine_eq]; omega, ?_⟩
  refine lcGo_map (T := ⟨rs, fun _ => True⟩) (M0 := M) (fun x => some (nameD x)) (fun _ _ => trivial) rs M (.refl _) (fun x hx acc M1 kk k1 hkk => ?_) fun M1 k1 p1 hp1 => ?_
  · obtain ⟨nm, e, rfl, hn⟩ := okr.called x hx
    refine ⟨_, asn_name, yes_if ?_⟩
    simp only [wX, List.set_cons_succ, List.set_cons_zero]
    exact hkk M1 k1
  rw [List.filterMap_eq_map']
  have k2 : Keep M (up M1 p1 (.lst (rs.map nameD))) := k1.trans (.new hp1)
  have e2 : (up M1 p1 (.lst (rs.map nameD))) p1 = some (.lst (rs.map nameD)) := up_same
  generalize up M1 p1 (.lst (rs.map nameD)) = M2 at k2 e2 ⊢
  refine ⟨_, seqT_t, by show ls.length ≤ sizeLine; rw [sizeLine_eq]; omega, ?_⟩
  refine lcGo_map (T := ⟨ls, fun _ => True⟩) (M0 := M2) (fun x => some (nameD x)) (fun _ _ => trivial) ls M2 (.refl _) (fun x hx acc M3 kk k3 hkk => ?_) fun M3 k3 p3 hp3 => ?_
  · obtain ⟨nm, e, rfl, hn⟩ := okl.called x hx
    refine ⟨_, asn_name, yes_if ?_⟩
    simp only [wX, List.set_cons_succ, List.set_cons_zero]
    exact hkk M3 k3
  rw [List.filterMap_eq_map']
  have k4 : Keep M2 (up M3 p3 (.lst (ls.map nameD))) := k3.trans (.new hp3)
  have e4 : (up M3 p3 (.lst (ls.map nameD))) p3 = some (.lst (ls.map nameD)) := up_same
  generalize up M3 p3 (.lst (ls.map nameD)) = M4 at k4 e4 ⊢
  refine ⟨by show 2 ≤ sizeLine; rw [sizeLine_eq]; omega, ?_⟩
  refine ⟨_, seqT_t, by show ks.length ≤ sizeLine; rw [sizeLine_eq]; omega, ?_⟩
  open Classical in
  refine all_go (T := ⟨ks, fun _ => True⟩) (fun x => decide (nameD x ∈ rs.map nameD)) (fun _ _ => trivial) (fun x hx M7 kk k7 hkk => ⟨_, asn_name, ?_⟩) fun M7 k7 => ?_
  · obtain ⟨nm, is, rfl, _, hm, _⟩ := nok.lk.each x hx
    simp only [wX, List.set_cons_succ, List.set_cons_zero]
    refine ix_t 0 rfl ?_
    exact in_pu (.inr ⟨p1, rfl, k7 _ _ (k4 _ _ e2)⟩) rfl (shaped_py (lay_name hm) (by simp [py, PyData.depth])) (good okr.called) decide_eq_true_iff (hkk M7 k7)
  refine ⟨_, tru_bl ▸ rfl, ?_⟩
  by_cases ea : (ks.all fun x => decide (nameD x ∈ rs.map nameD)) = true
  · rw [ea, if_neg (by simp)]
    refine ⟨_, seqT_t, by show bs.length ≤ sizeLine; rw [sizeLine_eq]; omega, ?_⟩
    refine all_go (T := ⟨bs, fun _ => True⟩) (fun x => decide (nameD x ∈ ls.map nameD)) (fun _ _ => trivial) (fun x hx M8 kk k8 hkk => ⟨_, asn_name, ?_⟩) fun M8 k8 => ?_
    · obtain ⟨nm, is, rfl, _, hm, _⟩ := nok.lb.each x hx
      simp only [wX, List.set_cons_succ, List.set_cons_zero]
      refine ix_t 0 rfl ?_
      exact in_pu (.inr ⟨p3, rfl, k8 _ _ (k7 _ _ e4)⟩) rfl (shaped_py (lay_name hm) (by simp [py, PyData.depth])) (good okl.called) decide_eq_true_iff (hkk M8 k8)
    refine h M8 _ (k2.trans (k4.trans (k7.trans k8))) ?_
    rw [List.all_eq_true] at ea ⊢
    exact ⟨fun z => ⟨fun x hx => of_decide_eq_true (ea x hx), fun x hx => of_decide_eq_true (z x hx)⟩, fun z x hx => decide_eq_true (z.2 x hx)⟩
  · have ef : (ks.all fun x => decide (nameD x ∈ rs.map nameD)) = false := by simpa using ea
    rw [ef, if_pos (by simp)]
    refine h M7 false (k2.trans (k4.trans k7)) ⟨fun z => (by cases z), fun z => absurd (List.all_eq_true.mpr fun x hx => decide_eq_true (z.1 x hx)) ea⟩
theorem use_l_due (c : Cs) (ds : List D) (M : Mp) (Q : DQ) (z : szs ds) (zm : szM M) (h : S_l_due c ds M Q) : (ir_l_due c).wp (bodyEnds Q) (startD N_l_due ds) M := by
  obtain ⟨n, rs, ls, ks, bs, k, rfl, a1, a2, a3, h⟩ := h
  exact wp_l_due c a1 a2 a3 h
/-! ### the law -/
def IsHome (d : D) : Prop := ∃ n : Nat, ∃ rs ls, d = homeT (n : Int) rs ls ∧ 1 ≤ n ∧ n ≤ 4 ∧ RulesOk n rs ∧ ListsOk n ls ∧ 1 ≤ rs.length
theorem mem_zipI {z : D} : ∀ {xs ys : List D}, z ∈ zipI xs ys → ∃ x y, z = .tup [x, y] ∧ x ∈ xs ∧ y ∈ ys
  | [], _, h => by unfold zipI at h; simp at h
  | _ :: _, [], h => by unfold zipI at h; simp at h
  | x :: xs, y :: ys, h => by
    have e : zipI (x :: xs) (y :: ys) = .tup [x, y] :: zipI xs ys := rfl
    rw [e] at h
    rcases List.mem_cons.mp h with rfl | h
    · exact ⟨x, y, rfl, List.mem_cons_self, List.mem_cons_self⟩
    · obtain ⟨a, b, e2, h1, h2⟩ := mem_zipI h
      exact ⟨a, b, e2, List.mem_cons_of_mem _ h1, List.mem_cons_of_mem _ h2⟩
def IsMeshS (d : D) : Prop := ∃ k : Nat, ∃ lks : List Lk, ∃ lbs : List Lb, d = meshT (k : Int) (lks.map lkD) (lbs.map lbD) ∧ NetOk (k : Int) (lks.map lkD) (lbs.map lbD) ∧ (∀ l ∈ lks, l.2.1 < k ∧ l.2.2 < k) ∧ (∀ b ∈ lbs, b.2 < k) ∧ k ≤ 20 ∧ lks.length ≤ 20 ∧ lbs.length ≤ 20
theorem IsMeshS.m {d : D} (h : IsMeshS d) : IsMesh d := by
  obtain ⟨k, lks, lbs, rfl, ok, _⟩ := h
  exact mesh_is ok
theorem IsMesh.d {d : D} (h : IsMesh d) : ∃ k ks bs, d = meshT k ks bs ∧ NetOk k ks bs := by
  obtain ⟨k, lks, lbs, rfl, ok⟩ := h
  exact ⟨_, _, _, rfl, ok⟩
theorem noLists (n : Int) : ListsOk n [] := ⟨by decide, fun _ h => (nomatch h), rfl⟩
/-- a thing that is no net -/
def NoNetD (c : Cs) (M : Mp) (d : D) : Prop := nfB c.Net c.House d M = true ∧ isaW c c.Net c.House d M = some false
theorem no_kind {c : Cs} {M : Mp} {d : D} {q : String} (h1 : insOf d M = none) (h2 : kind d M = some q) : NoNetD c M d := by
  unfold NoNetD nfB isaW
  rw [h1, h2]
  exact ⟨rfl, rfl⟩
theorem no_house {c : Cs} {M : Mp} {a : Addr} {fs : List (Str × D)} (hne : c.House ≠ c.Net) (h : M a = some (.ins c.House fs)) : NoNetD c M (.ref a) := by
  have e : insOf (.ref a) M = some c.House := by unfold insOf; simp [h]
  unfold NoNetD nfB isaW
  rw [e]
  exact ⟨by simp, by show (if c.House = c.Net then some true else if c.House = c.House then some false else none) = some false; rw [if_neg hne, if_pos rfl]⟩
abbrev N_law : List Str := ["_law_script", "_law_k", "_law_pot_here", "_law_homes", "_law_meshes", "_law_home_here", "_law_mesh_here", "_law_other", "_law_thing", "_law_house", "_law_net", "_law_told"]
def ir_law (c : Cs) : Ss := (.cons (.for_ (.name 1) (.r1 (.bcall .max (.cons (.int 1) (.cons (.bcall .min (.cons (.int 3) (.cons (.bcall .len (.cons (.var 0) .nil)) .nil))) .nil)))) (.cons (.asg (.name 2) (.know c.House c.Net (.call "_law_pot" (S_l_pot c) (.cons (.var 0) (.cons (.var 1) .nil))))) (.cons (.asg (.name 3) (.lst (.cons (.call "_law_home" (S_l_home c) (.cons (.var 2) (.cons (.int 4) .nil))) (.cons (.call "_law_home" (S_l_home c) (.cons (.var 2) (.cons (.int 4) .nil))) .nil)))) (.cons (.expr (.bm .append (.var 3) (.cons (.tup (.cons (.idx (.idx (.var 3) (.int 0)) (.int 0)) (.cons (.idx (.idx (.var 3) (.int 0)) (.int 1)) (.cons (.tup .nil) .nil)))) .nil))) (.cons (.setLc 4 [("_law_home_here", 5)] (.name 5) (.seq (.var 3)) .none (.call "_law_mesh" (S_l_mesh c) (.cons (.var 2) (.cons (.var 5) (.cons (.int 8) (.cons (.int 9) .nil)))))) (.cons (.for_ (.tup (.cons (.name 5) (.cons (.name 6) .nil))) (.zip (.var 3) (.var 4)) (.cons (.asg (.tup (.cons (.name 9) (.cons (.name 10) .nil))) (.tup (.cons (.call "_law_built" (S_l_built c) (.cons (.var 5) .nil)) (.cons (.call "_law_woven" (S_l_woven c) (.cons (.var 6) .nil)) .nil)))) (.cons (.ife (.bcall .any (.cons (.lc [("_law_thing", 8)] (.name 8) (.seq (.tup (.cons .non (.cons (.var 6) (.cons (.idx (.var 6) (.int 0)) (.cons (.tup .nil) (.cons (.str "net") (.cons (.var 9) .nil)))))))) .none (.cmpW false c.Net (nfB c.Net c.House) (S_Net_eq c) (.var 10) (.var 8))) .nil)) (.cons (.ret (.bl false)) .nil) .nil) (.cons (.for_ (.name 7) (.seq (.bin .Add (.var 4) (.call "_law_others" (S_l_others c) (.cons (.var 2) (.cons (.var 5) (.cons (.var 6) .nil)))))) (.cons (.asg (.name 11) (.call "is_net_of" (S_is_net_of c) (.cons (.var 9) (.cons (.call "_law_woven" (S_l_woven c) (.cons (.var 7) .nil)) .nil)))) (.cons (.ife (.cmp .NotEq (.bcall .repr (.cons (.var 11) .nil)) (.bcall .repr (.cons (.call "_law_due" (S_l_due c) (.cons (.var 5) (.cons (.var 7) .nil))) .nil))) (.cons (.ret (.bl false)) .nil) .nil) (.cons (.ife (.bop .Or (.cons (.cmp .NotEq (.cmpW false c.Net (nfB c.Net c.House) (S_Net_eq c) (.var 10) (.call "_law_woven" (S_l_woven c) (.cons (.var 7) .nil))) (.cmp .Eq (.var 6) (.var 7))) (.cons (.cmp .NotEq (.cmpW true c.Net (nfB c.Net c.House) (S_Net_eq c) (.var 10) (.call "_law_woven" (S_l_woven c) (.cons (.var 7) .nil))) (.cmp .NotEq (.var 6) (.var 7))) .nil))) (.cons (.ret (.bl false)) .nil) .nil) .nil)))) (.cons (.for_ (.name 8) (.seq (.tup (.cons .non (.cons (.bl true) (.cons (.int 0) (.cons (.var 6) (.cons (.lst (.cons (.var 10) .nil)) (.cons (.tup (.cons (.var 10) .nil)) (.cons (.str "net") (.cons (.dnew .k) (.cons (.var 9) (.cons (.tup (.cons (.tup .nil) (.cons (.tup .nil) .nil))) .nil)))))))))))) (.cons (.ife (.cmp .IsNot (.call "is_net_of" (S_is_net_of c) (.cons (.var 9) (.cons (.var 8) .nil))) (.bl false)) (.cons (.ret (.bl false)) .nil) .nil) .nil)) .nil))))) .nil)))))) (.cons (.ret (.bl true)) .nil))
def S_law (_ : Cs) : Spec := fun ds M Q => ∃ a ns, ds = [.ref a] ∧ M a = some (.scr ns) ∧ ns.length ≤ 100 ∧ ∀ M', Keep M M' → Q (.bl true) M'
theorem wp_law (c : Cs) {a : Addr} {ns : List Int} {M : Mp} {Q : DQ} (ha : M a = some (.scr ns)) (hz : ns.length ≤ 100) (h : ∀ M', Keep M M' → Q (.bl true) M') : (ir_law c).wp (bodyEnds Q) [some (.ref a), none, none, none, none, none, none, none, none, none, none, none] M := by
  simp only [wX, ir_law]
  refine ⟨_, ns.length, rfl, .inr ⟨ns, ha, rfl⟩, ⟨3, _, rfl, ⟨1, _, rfl, ?_⟩⟩⟩
  generalize hn : (if (if (ns.length : Int) < 3 then (ns.length : Int) else 3) > 1 then (if (ns.length : Int) < 3 then (ns.length : Int) else 3) else 1) = nn
  have n2 : nn ≤ 3 := by rw [← hn]; split <;> (try split) <;> omega
  have n1 : 1 ≤ nn := by rw [← hn]; split <;> (try split) <;> omega
  refine ⟨nn, rfl, by unfold small62; omega, ?_⟩
  refine forGo_inv (T := ⟨rngI 0 nn, fun _ => True⟩) (fun done ρ M2 => Keep M M2 ∧ ∃ v1 v2 v3 v4 v5 v6 v7 v8 v9 v10 v11, ρ = [some (.ref a), v1, v2, v3, v4, v5, v6, v7, v8, v9, v10, v11]) (fun _ _ _ _ => trivial) (rngI 0 nn) [] _ M ⟨.refl _, _, _, _, _, _, _, _, _, _, _, _, rfl⟩ (fun x hx done ρ M2 kk hJ hkk => ?_) fun ρ M2 hJ => ?_
  · obtain ⟨k2, v1, v2, v3, v4, v5, v6, v7, v8, v9, v10, v11, rfl⟩ := hJ
    obtain ⟨i, rfl, i0, i1⟩ := rng_mem hx
    refine ⟨_, rfl, ?_⟩
    simp only [wX]
    intro hne
    refine ⟨a, ns, i, rfl, k2 _ _ ha, hz, i0, by omega, fun M3 p k3 hp2 hp3 => ?_⟩
    refine ⟨p, 4, rfl, hp3, by decide, by decide, fun M4 n rs ls k4 n1' n4' okr okl lr ll _ => ?_⟩
    have hp4 := k4 _ _ hp3
    refine ⟨p, 4, rfl, hp4, by decide, by decide, fun M5 n' rs' ls' k5 n1'' n4'' okr' okl' lr' ll' _ => ?_⟩
    have hp5 := k5 _ _ hp4
    refine ⟨by show 2 ≤ sizeLine; rw [sizeLine_eq]; omega, fun q1 hq1 => ?_⟩
    have e6 : (up M5 q1 (.lst [homeT n rs ls, homeT n' rs' ls'])) q1 = some (.lst [homeT n rs ls, homeT n' rs' ls']) := up_same
    have k6 : Keep M5 (up M5 q1 (.lst [homeT n rs ls, homeT n' rs' ls'])) := .new hq1
    show tyD "list" (D.ref q1) (up M5 q1 (.lst [homeT n rs ls, homeT n' rs' ls'])) ∧ ixD (D.ref q1) (D.int 0) (up M5 q1 (.lst [homeT n rs ls, homeT n' rs' ls'])) _
    generalize up M5 q1 (.lst [homeT n rs ls, homeT n' rs' ls']) = M6 at e6 k6 ⊢
    refine ⟨.inl ⟨rfl, _, e6⟩, ix_l 0 e6 rfl (ix_t 0 rfl (ix_l 0 e6 rfl (ix_t 1 rfl ⟨by show 0 ≤ sizeLine; omega, by show 3 ≤ sizeLine; rw [sizeLine_eq]; omega, ?_⟩)))⟩
    refine ⟨q1, _, _, rfl, rfl, e6, by show 2 < sizeLine; rw [sizeLine_eq]; omega, ?_⟩
    have hH : ∀ d ∈ [homeT n rs ls, homeT n' rs' ls'] ++ [D.tup [.int n, .tup rs, .tup []]], IsHome d := fun d hd => by
      rcases List.mem_cons.mp hd with rfl | hd
      · exact ⟨n, rs, ls, rfl, n1', n4', okr, okl, lr⟩
      · rcases List.mem_cons.mp hd with rfl | hd
        · exact ⟨n', rs', ls', rfl, n1'', n4'', okr', okl', lr'⟩
        · obtain rfl := List.mem_singleton.mp hd
          exact ⟨n, rs, [], rfl, n1', n4', okr, noLists _, lr⟩
    have zH : ([homeT n rs ls, homeT n' rs' ls'] ++ [D.tup [.int n, .tup rs, .tup []]]).length = 3 := rfl
    generalize [homeT n rs ls, homeT n' rs' ls'] ++ [D.tup [.int n, .tup rs, .tup []]] = homes at hH zH ⊢
    have e7 : (up M6 q1 (.lst homes)) q1 = some (.lst homes) := up_same
    have k7 : Keep M5 (up M6 q1 (.lst homes)) := k6.put hq1
    generalize up M6 q1 (.lst homes) = M7 at e7 k7 ⊢
    have hp7 := k7 _ _ hp5
    refine ⟨_, seqT_l e7, by show homes.length ≤ sizeLine; rw [zH, sizeLine_eq]; omega, ?_⟩
    refine lcGo_inv (T := ⟨homes, fun M => M q1 = some (.lst homes)⟩) (fun done acc M8 => Keep M7 M8 ∧ acc.length ≤ done.length ∧ ∀ d ∈ acc, IsMeshS d) (fun _ _ _ hJ => hJ.1 _ _ e7) homes [] [] M7 ⟨.refl _, Nat.le_refl _, (fun _ h => nomatch h)⟩ (fun x hx done acc M8 kk8 hJ hkk8 => ?_) fun acc M8 hJ => ?_
    · obtain ⟨k8, zacc, hacc⟩ := hJ
      obtain ⟨m, rs2, ls2, rfl, m1, m4, or2, ol2, lr2⟩ := hH x hx
      refine ⟨_, rfl, yes_if ?_⟩
      simp only [wX]
      refine ⟨p, m, rs2, ls2, 8, 9, rfl, k8 _ _ hp7, or2, ol2, lr2, by decide, by decide, by decide, by decide, fun M9 many ks bs k9 m0 m8 mok zk zb => hkk8 _ _ ⟨k8.trans k9, by rw [List.length_append, List.length_append]; exact Nat.add_le_add_right zacc 1, fun d hd => ?_⟩⟩
      rcases List.mem_append.mp hd with hd | hd
      · exact hacc d hd
      · obtain rfl := List.mem_singleton.mp hd
        obtain ⟨k, rfl⟩ := Int.eq_ofNat_of_zero_le m0
        obtain ⟨lks, lbs, rfl, rfl, td⟩ := mesh_data mok
        rw [List.length_map] at zk zb
        exact ⟨k, lks, lbs, rfl, mok.net, fun l hl => (td.kn l hl).2, fun b hb => (td.bn b hb).2, by omega, by have : (9 : Int).toNat = 9 := rfl; omega, by omega⟩
    · obtain ⟨k8, zacc, hacc⟩ := hJ
      have zacc : acc.length ≤ 3 := by rw [List.nil_append, zH] at zacc; exact zacc
      intro q2 hq2
      have e9 : (up M8 q2 (.lst acc)) q2 = some (.lst acc) := up_same
      have k9 : Keep M7 (up M8 q2 (.lst acc)) := k8.put (k8.none hq2)
      generalize up M8 q2 (.lst acc) = M9 at e9 k9 ⊢
      have e79 := k9 _ _ e7
      refine ⟨_, .inr ⟨q1, q2, homes, acc, rfl, rfl, e79, e9, rfl⟩, ?_⟩
      refine forGo_inv (T := ⟨zipI homes acc, fun M => M q1 = some (.lst homes) ∧ M q2 = some (.lst acc)⟩) (fun done ρ M10 => Keep M9 M10 ∧ ∃ v5 v6 v7 v8 v9 v10 v11, ρ = [some (.ref a), some (.int i), some (.ref p), some (.ref q1), some (.ref q2), v5, v6, v7, v8, v9, v10, v11]) (fun _ _ _ hJ => ⟨hJ.1 _ _ e79, hJ.1 _ _ e9⟩) (zipI homes acc) [] _ M9 ⟨.refl _, _, _, _, _, _, _, _, rfl⟩ (fun x hx done ρ M10 kk10 hJ hkk10 => ?_) fun ρ M10 hJ => ?_
      · obtain ⟨k10, v5, v6, v7, v8, v9, v10, v11, rfl⟩ := hJ
        obtain ⟨h0, m0, rfl, hh0, hm0⟩ := mem_zipI hx
        obtain ⟨m, rs2, ls2, rfl, m1, m4, or2, ol2, lr2⟩ := hH h0 hh0
        obtain ⟨k, lks, lbs, rfl, nok, tk, tb, k20, z1, z2⟩ := hacc m0 hm0
        refine ⟨_, rfl, ?_⟩
        simp only [wX]
        refine ⟨m, rs2, ls2, rfl, by omega, by omega, or2, ol2, fun M11 t k11 ht hat => ⟨k, _, _, rfl, nok, fun M12 w k12 hw hnet => ?_⟩⟩
        obtain ⟨d1, d2, kv1, kv2, et, _⟩ := hat.keep k12
        have k9_12 : Keep M9 M12 := k10.trans (k11.trans k12)
        have hp12 := k9_12 _ _ (k9 _ _ hp7)
        refine ⟨by show 2 ≤ sizeLine; rw [sizeLine_eq]; omega, ix_t 0 rfl ⟨by show 0 ≤ sizeLine; omega, by show 6 ≤ sizeLine; rw [sizeLine_eq]; omega, _, seqT_t, by show 6 ≤ sizeLine; rw [sizeLine_eq]; omega, ?_⟩⟩
        have noHouse : ∀ M', Keep M12 M' → NoNetD c M' (.ref t) := fun M' k' => no_house hne (k' _ _ et)
        have noNet : ∀ x ∈ [D.non, meshT (k : Int) (lks.map lkD) (lbs.map lbD), .int (k : Int), .tup [], .str (Str.ofString "net"), .ref t], ∀ M', Keep M12 M' → NoNetD c M' x := fun x hx M' k' => by
          rcases List.mem_cons.mp hx with rfl | hx
          · exact no_kind rfl rfl
          · rcases List.mem_cons.mp hx with rfl | hx
            · exact no_kind rfl rfl
            · rcases List.mem_cons.mp hx with rfl | hx
              · exact no_kind rfl rfl
              · rcases List.mem_cons.mp hx with rfl | hx
                · exact no_kind rfl rfl
                · rcases List.mem_cons.mp hx with rfl | hx
                  · exact no_kind rfl rfl
                  · obtain rfl := List.mem_singleton.mp hx
                    exact noHouse M' k'
        refine any_go (T := ⟨_, fun _ => True⟩) (fun _ => false) (fun _ _ => trivial) (fun x hx M13 kk13 k13 hk13 => ⟨_, rfl, ?_⟩) fun M13 k13 => ?_
        · obtain ⟨g1, g2⟩ := noNet x hx M13 k13
          simp only [wX]
          exact ⟨w, _, rfl, k13 _ _ hnet, g1, w, x, rfl, .inr ⟨g2, false, rfl, hk13 _ k13⟩⟩
        refine ⟨_, rfl, ?_⟩
        rw [if_neg (by simp)]
        refine ⟨p, m, rs2, ls2, k, lks, lbs, rfl, k13 _ _ hp12, or2, ol2, nok, tk, tb, z1, z2, k20, fun M14 q3 ms k14 hq3 e14 zms hms => ?_⟩
        have k9_14 : Keep M9 M14 := k9_12.trans (k13.trans k14)
        have k12_14 : Keep M12 M14 := k13.trans k14
        refine ⟨acc, ms, k9_14 _ _ e9, e14, by rw [sizeLine_eq]; omega, fun q4 hq4 => ?_⟩
        have e15 : (up M14 q4 (.lst (acc ++ ms))) q4 = some (.lst (acc ++ ms)) := up_same
        have k15 : Keep M14 (up M14 q4 (.lst (acc ++ ms))) := .new hq4
        generalize up M14 q4 (.lst (acc ++ ms)) = M15 at e15 k15 ⊢
        have k12_15 : Keep M12 M15 := k12_14.trans k15
        refine ⟨_, seqT_l e15, ?_⟩
        refine forGo_inv (T := ⟨acc ++ ms, fun M => M q4 = some (.lst (acc ++ ms))⟩) (fun done ρ M16 => Keep M15 M16 ∧ ∃ v7 v8 v11, ρ = [some (.ref a), some (.int i), some (.ref p), some (.ref q1), some (.ref q2), some (homeT (m : Int) rs2 ls2), some (meshT (k : Int) (lks.map lkD) (lbs.map lbD)), v7, v8, some (.ref t), some (.ref w), v11]) (fun _ _ _ hJ => hJ.1 _ _ e15) (acc ++ ms) [] _ M15 ⟨.refl _, _, _, _, rfl⟩ (fun x hx done ρ M16 kk16 hJ hkk16 => ?_) fun ρ M16 hJ => ?_
        · obtain ⟨k16, u7, u8, u11, rfl⟩ := hJ
          have hmx : IsMesh x := by
            rcases List.mem_append.mp hx with h | h
            · exact (hacc x h).m
            · exact hms x h
          obtain ⟨kx, ksx, bsx, rfl, nokx⟩ := hmx.d
          refine ⟨_, rfl, ?_⟩
          simp only [wX]
          have tiesOf : ∀ {n' : Nat} {xs : List D}, TiesOk kx n' xs → ∀ y ∈ xs, ∃ nm is, y = tie nm is ∧ nameS nm = true := fun h y hy => by
            obtain ⟨nm, is, e, _, hn, _⟩ := h.each y hy
            exact ⟨nm, is, e, hn⟩
          refine ⟨kx, ksx, bsx, rfl, nokx, fun M17 w2 k17 hw2 hnet2 => ?_⟩
          have k12_17 : Keep M12 M17 := k12_15.trans (k16.trans k17)
          refine ⟨t, .ref w2, rfl, .inl ⟨w2, .int m, .ref d1, .ref d2, .int kx, m, rs2, ls2, ksx, bsx, rfl, k12_17 _ _ et, hnet2, or2, ol2, by rw [sizeLine_eq]; have := nokx.ll; omega, by rw [sizeLine_eq]; have := nokx.bl; omega, tiesOf nokx.lk, tiesOf nokx.lb, fun M18 e k18 he => .inr (.inl ⟨e, rfl, ?_⟩)⟩⟩
          refine ⟨m, rs2, ls2, ksx, bsx, kx, rfl, or2, ol2, nokx, fun M19 e' k19 he' => .inr (.inl ⟨e', rfl, ?_⟩)⟩
          obtain rfl : e' = e := by rw [Bool.eq_iff_iff, he, he']
          simp only [wX, decide_true, Bool.not_true, if_true, Bool.false_eq_true, if_false]
          refine ⟨kx, ksx, bsx, rfl, nokx, fun M20 w3 k20' hw3 hnet3 => ?_⟩
          have k12_20 : Keep M12 M20 := k12_17.trans (k18.trans (k19.trans k20'))
          have insN : ∀ {M' : Mp} {w' : Addr} {fs : List (Str × D)}, M' w' = some (.ins c.Net fs) → nfB c.Net c.House (.ref w') M' = true := fun {M' w' fs} h => by
            unfold nfB insOf
            simp [h]
          obtain ⟨pm1, sm1⟩ := pu_net nok
          obtain ⟨pm2, sm2⟩ := pu_net nokx
          have eqb : ∀ {neg : Bool} {e1 e2 : Bool} {M' : Mp} {Q' : DQ}, e1 = e2 → Q' (.bl false) M' → eqD true (.bl e1) (.bl e2) M' Q' := fun {neg e1 e2 M' Q'} h q => by
            subst h
            exact eq_self rfl (by unfold lay py PyData.canLay0; rfl) (by simp [py, PyData.depth]) q
          refine ⟨w, _, rfl, k12_20 _ _ hnet, insN hnet3, w, .ref w3, rfl, .inl ⟨w3, k, _, _, kx, _, _, rfl, k12_20 _ _ hnet, hnet3, nok, nokx, fun e1 he1 => ⟨e1, rfl, ?_⟩⟩⟩
          refine eq_pu (b := e1) pm1 sm1 pm2 sm2 he1 (eqb (neg := true) (by cases e1 <;> rfl) ⟨_, rfl, ?_⟩)
          rw [if_neg (by simp)]
          refine ⟨kx, ksx, bsx, rfl, nokx, fun M21 w4 k21 hw4 hnet4 => ?_⟩
          have k12_21 : Keep M12 M21 := k12_20.trans k21
          refine ⟨w, _, rfl, k12_21 _ _ hnet, insN hnet4, w, .ref w4, rfl, .inl ⟨w4, k, _, _, kx, _, _, rfl, k12_21 _ _ hnet, hnet4, nok, nokx, fun e2 he2 => ⟨e2, rfl, ?_⟩⟩⟩
          refine eq_pu (b := e2) pm1 sm1 pm2 sm2 he2 (eqb (neg := true) (by cases e2 <;> rfl) ⟨_, rfl, ?_⟩)
          rw [if_neg (by simp)]
          exact hkk16 _ _ ⟨k16.trans (k17.trans (k18.trans (k19.trans (k20'.trans k21)))), _, _, _, rfl⟩
        · obtain ⟨k16, u7, u8, u11, rfl⟩ := hJ
          simp only [wX]
          have k12_16 : Keep M12 M16 := k12_15.trans k16
          refine ⟨by show 1 ≤ sizeLine; rw [sizeLine_eq]; omega, fun r1 hr1 => ⟨by show 1 ≤ sizeLine; rw [sizeLine_eq]; omega, fun r2 hr2 => ⟨by show 0 ≤ sizeLine; omega, by show 0 ≤ sizeLine; omega, by show 2 ≤ sizeLine; rw [sizeLine_eq]; omega, by show 10 ≤ sizeLine; rw [sizeLine_eq]; omega, _, seqT_t, ?_⟩⟩⟩
          have f1 : (up (up M16 r1 (.lst [.ref w])) r2 (.dK [])) r1 = some (.lst [.ref w]) := by
            rw [up_ne (fun z => by rw [← z, up_same] at hr2; cases hr2)]; exact up_same
          have f2 : (up (up M16 r1 (.lst [.ref w])) r2 (.dK [])) r2 = some (.dK []) := up_same
          have k22 : Keep M16 (up (up M16 r1 (.lst [.ref w])) r2 (.dK [])) := (Keep.new hr1).trans (.new hr2)
          generalize up (up M16 r1 (.lst [.ref w])) r2 (.dK []) = M22 at f1 f2 k22 ⊢
          have k12_22 : Keep M12 M22 := k12_16.trans k22
          have kref : ∀ {M' : Mp} {r : Addr} {o : MO} {q : String}, M' r = some o → kindO (some o) = some q → (∀ C fs, o ≠ .ins C fs) → NoNetD c M' (.ref r) := fun {M' r o q} h1 h2 h3 => by
            refine no_kind (q := q) ?_ ?_
            · unfold insOf
              simp only [h1]
              cases o <;> first | rfl | exact absurd rfl (h3 _ _)
            · show kindO (M' r) = some q
              rw [h1]; exact h2
          have all10 : ∀ x ∈ [D.non, D.bl true, D.int 0, meshT (k : Int) (lks.map lkD) (lbs.map lbD), D.ref r1, D.tup [D.ref w], D.str (Str.ofString "net"), D.ref r2, D.ref t, D.tup [D.tup [], D.tup []]], ∀ M', Keep M22 M' → NoNetD c M' x := fun x hx M' k' => by
            rcases List.mem_cons.mp hx with rfl | hx
            · exact no_kind rfl rfl
            rcases List.mem_cons.mp hx with rfl | hx
            · exact no_kind rfl rfl
            rcases List.mem_cons.mp hx with rfl | hx
            · exact no_kind rfl rfl
            rcases List.mem_cons.mp hx with rfl | hx
            · exact no_kind rfl rfl
            rcases List.mem_cons.mp hx with rfl | hx
            · exact kref (k' _ _ f1) rfl fun _ _ z => by cases z
            rcases List.mem_cons.mp hx with rfl | hx
            · exact no_kind rfl rfl
            rcases List.mem_cons.mp hx with rfl | hx
            · exact no_kind rfl rfl
            rcases List.mem_cons.mp hx with rfl | hx
            · exact kref (k' _ _ f2) rfl fun _ _ z => by cases z
            rcases List.mem_cons.mp hx with rfl | hx
            · exact noHouse M' (k12_22.trans k')
            · obtain rfl := List.mem_singleton.mp hx
              exact no_kind rfl rfl
          refine forGo_inv (T := ⟨_, fun _ => True⟩) (fun done ρ M23 => Keep M22 M23 ∧ ∃ v8, ρ = [some (.ref a), some (.int i), some (.ref p), some (.ref q1), some (.ref q2), some (homeT (m : Int) rs2 ls2), some (meshT (k : Int) (lks.map lkD) (lbs.map lbD)), u7, v8, some (.ref t), some (.ref w), u11]) (fun _ _ _ _ => trivial) _ [] _ M22 ⟨.refl _, _, rfl⟩ (fun x hx done ρ M23 kk23 hJ hkk23 => ?_) fun ρ M23 hJ => ?_
          · obtain ⟨k23, v8, rfl⟩ := hJ
            refine ⟨_, rfl, ?_⟩
            simp only [wX]
            refine ⟨t, x, rfl, .inr ⟨(all10 x hx M23 k23).2, .inr ⟨false, false, rfl, rfl, ⟨_, rfl, ?_⟩⟩⟩⟩
            rw [if_neg (by decide)]
            exact hkk23 _ _ ⟨k23, _, rfl⟩
          · obtain ⟨k23, v8, rfl⟩ := hJ
            exact hkk10 _ _ ⟨k9_14.trans (k15.trans (k16.trans (k22.trans k23))), _, _, _, _, _, _, _, rfl⟩
      · obtain ⟨k10, v5, v6, v7, v8, v9, v10, v11, rfl⟩ := hJ
        exact hkk _ _ ⟨k2.trans (k3.trans (k4.trans (k5.trans (k7.trans (k9.trans k10))))), _, _, _, _, _, _, _, _, _, _, _, rfl⟩
  · obtain ⟨k2, v1, v2, v3, v4, v5, v6, v7, v8, v9, v10, v11, rfl⟩ := hJ
    simp only [wX]
    exact h _ k2
theorem use_law (c : Cs) (ds : List D) (M : Mp) (Q : DQ) (z : szs ds) (zm : szM M) (h : S_law c ds M Q) : (ir_law c).wp (bodyEnds Q) (startD N_law ds) M := by
  obtain ⟨a, ns, rfl, ha, hz, h⟩ := h
  exact wp_law c ha hz h
end DL

set_option Elab.async false
set_option linter.all false
set_option maxRecDepth 100000
set_option maxHeartbeats 0
/-! the law's text linked: statements, matches, promises, the head. -/
namespace DL
open PySem PySem.Spec PyProof.Rows L2
structure Lw (P : Program) (w : World) (K : PySem.W.Frag) (mg : Str → Option Value) (base : Heap) (c : Cs) : Prop where
  cP : c.P = P
  cw : c.w = w
  nd : base.NoDigits
  b_abs : mg "abs" = none
  b_all : mg "all" = none
  b_any : mg "any" = none
  b_bool : mg "bool" = none
  b_int : mg "int" = none
  b_isinstance : mg "isinstance" = none
  b_len : mg "len" = none
  b_list : mg "list" = none
  b_max : mg "max" = none
  b_min : mg "min" = none
  b_range : mg "range" = none
  b_repr : mg "repr" = none
  b_set : mg "set" = none
  b_sorted : mg "sorted" = none
  b_str : mg "str" = none
  b_tuple : mg "tuple" = none
  b_zip : mg "zip" = none
  g_LETTERS : GlD K mg "LETTERS" (.str "abcdefghijklmnopqrstuvwxyz")
  g_MOST_KNOTS : GlD K mg "MOST_KNOTS" (.int 60)
  g_MOST_LABELS : GlD K mg "MOST_LABELS" (.int 400)
  g_MOST_LETTERS : GlD K mg "MOST_LETTERS" (.int 6)
  g_MOST_LINKS : GlD K mg "MOST_LINKS" (.int 700)
  g_MOST_LISTS : GlD K mg "MOST_LISTS" (.int 6)
  g_MOST_MARKS : GlD K mg "MOST_MARKS" (.int 4)
  g_MOST_RULES : GlD K mg "MOST_RULES" (.int 3)
  m_House : mg "House" = some (.ref c.House)
  c_House : ClsF K c.House
  m_Net : mg "Net" = some (.ref c.Net)
  c_Net : ClsF K c.Net
  f_House_lists : Cf K c.House "lists"
  f_House_many : Cf K c.House "many"
  f_House_marks_by : Cf K c.House "marks_by"
  f_House_pairs_by : Cf K c.House "pairs_by"
  f_House_rules : Cf K c.House "rules"
  f_Net_knots : Cf K c.Net "knots"
  f_Net_labels : Cf K c.Net "labels"
  f_Net_links : Cf K c.Net "links"
  n_Net : ∀ A, NeM ⟨P, w, K, mg, base, A⟩ c.Net
  u_Net_House : UnC K c.Net c.House
abbrev P_are_rising : List Str := ["some"]
abbrev NN_are_rising : List Str := ["some", "one", "other"]
theorem mt_are_rising (c : Cs) : (ir_are_rising c).mt ⟨NN_are_rising, defScope s_are_rising, fun _ => true⟩ (defBody s_are_rising) = true := by kernel_rfl
theorem sc_are_rising : FnScope NN_are_rising P_are_rising (defScope s_are_rising) := C8.fnScope_by (by decide +kernel)
theorem len_are_rising (c : Cs) (ds : List D) (M : Mp) (Q : DQ) (h : S_are_rising c ds M Q) : ds.length = P_are_rising.length := by
  unfold S_are_rising at h
  repeat' (first | (obtain ⟨rfl, _⟩ := h; rfl; done) | (refine Or.elim h (fun h => ?_) (fun h => ?_)) | (obtain ⟨_, h⟩ := h))
theorem ok_are_rising {P : Program} {w : World} {K : PySem.W.Frag} {mg : Str → Option Value} {base : Heap} {f : Addr} {fd : FuncData} {c : Cs} {kws : List (Str × V)} (L : Lw P w K mg base c) (F : FunD K "are_rising" "are_rising" (defArgs s_are_rising) (defBody s_are_rising) (defScope s_are_rising) [] kws f fd)  : FnOk P w K mg base CX0 1 f fd P_are_rising (spD K (S_are_rising c)) := by
  refine fn_okP (k := 0) F sc_are_rising (ir_are_rising c) (len_are_rising c) (mt_are_rising c) (fun A hr => ?_) (use_are_rising c)
  simp only [ir_are_rising, Ss.ok, S.ok, E.ok, Es.ok, Oe.ok, Wk.ok, Es.len, Blt.nm, Blt.isRepr, Bool.false_eq_true, false_implies, and_true, true_and, Nat.zero_add, Nat.reduceAdd, List.length_cons, List.length_nil]
  repeat' (first | exact trivial | rfl | exact L.b_all | exact L.b_zip | exact L.cP | exact L.cw | apply And.intro)
abbrev P_is_name : List Str := ["thing"]
abbrev NN_is_name : List Str := ["thing", "sign"]
theorem mt_is_name (c : Cs) : (ir_is_name c).mt ⟨NN_is_name, defScope s_is_name, fun _ => true⟩ (defBody s_is_name) = true := by kernel_rfl
theorem sc_is_name : FnScope NN_is_name P_is_name (defScope s_is_name) := C8.fnScope_by (by decide +kernel)
theorem len_is_name (c : Cs) (ds : List D) (M : Mp) (Q : DQ) (h : S_is_name c ds M Q) : ds.length = P_is_name.length := by
  unfold S_is_name at h
  repeat' (first | (obtain ⟨rfl, _⟩ := h; rfl; done) | (refine Or.elim h (fun h => ?_) (fun h => ?_)) | (obtain ⟨_, h⟩ := h))
theorem ok_is_name {P : Program} {w : World} {K : PySem.W.Frag} {mg : Str → Option Value} {base : Heap} {f : Addr} {fd : FuncData} {c : Cs} {kws : List (Str × V)} (L : Lw P w K mg base c) (F : FunD K "is_name" "is_name" (defArgs s_is_name) (defBody s_is_name) (defScope s_is_name) [] kws f fd)  : FnOk P w K mg base CX0 1 f fd P_is_name (spD K (S_is_name c)) := by
  refine fn_okP (k := 0) F sc_is_name (ir_is_name c) (len_is_name c) (mt_is_name c) (fun A hr => ?_) (use_is_name c)
  simp only [ir_is_name, Ss.ok, S.ok, E.ok, Es.ok, Oe.ok, Wk.ok, Es.len, Blt.nm, Blt.isRepr, Bool.false_eq_true, false_implies, and_true, true_and, Nat.zero_add, Nat.reduceAdd, List.length_cons, List.length_nil]
  repeat' (first | exact trivial | rfl | exact L.b_all | exact L.b_len | exact L.g_LETTERS | exact L.g_MOST_LETTERS | exact isaB_ok L.b_isinstance L.b_str (by decide) | exact L.cP | exact L.cw | apply And.intro)
abbrev P_are_called : List Str := ["thing", "most"]
abbrev NN_are_called : List Str := ["thing", "most", "one"]
theorem mt_are_called (c : Cs) : (ir_are_called c).mt ⟨NN_are_called, defScope s_are_called, fun _ => true⟩ (defBody s_are_called) = true := by kernel_rfl
theorem sc_are_called : FnScope NN_are_called P_are_called (defScope s_are_called) := C8.fnScope_by (by decide +kernel)
theorem len_are_called (c : Cs) (ds : List D) (M : Mp) (Q : DQ) (h : S_are_called c ds M Q) : ds.length = P_are_called.length := by
  unfold S_are_called at h
  repeat' (first | (obtain ⟨rfl, _⟩ := h; rfl; done) | (refine Or.elim h (fun h => ?_) (fun h => ?_)) | (obtain ⟨_, h⟩ := h))
theorem ok_are_called {P : Program} {w : World} {K : PySem.W.Frag} {mg : Str → Option Value} {base : Heap} {f : Addr} {fd : FuncData} {c : Cs} {kws : List (Str × V)} (L : Lw P w K mg base c) (F : FunD K "are_called" "are_called" (defArgs s_are_called) (defBody s_are_called) (defScope s_are_called) [] kws f fd) (h0 : Pr P w K mg base 1 "are_rising" 1 [] (S_are_rising c)) (h1 : Pr P w K mg base 1 "is_name" 1 [] (S_is_name c)) : FnOk P w K mg base CX0 2 f fd P_are_called (spD K (S_are_called c)) := by
  refine fn_okP (k := 1) F sc_are_called (ir_are_called c) (len_are_called c) (mt_are_called c) (fun A hr => ?_) (use_are_called c)
  have qh0 := h0 A (hr.mono (by decide))
  have qh1 := h1 A (hr.mono (by decide))
  simp only [ir_are_called, Ss.ok, S.ok, E.ok, Es.ok, Oe.ok, Wk.ok, Es.len, Blt.nm, Blt.isRepr, Bool.false_eq_true, false_implies, and_true, true_and, Nat.zero_add, Nat.reduceAdd, List.length_cons, List.length_nil]
  repeat' (first | exact trivial | rfl | exact qh0 | exact qh1 | exact L.b_all | exact L.b_len | exact isaB_ok L.b_isinstance L.b_tuple (by decide) | exact L.cP | exact L.cw | apply And.intro)
abbrev P_is_whole : List Str := ["thing", "low", "high"]
abbrev NN_is_whole : List Str := ["thing", "low", "high"]
theorem mt_is_whole (c : Cs) : (ir_is_whole c).mt ⟨NN_is_whole, defScope s_is_whole, fun _ => true⟩ (defBody s_is_whole) = true := by kernel_rfl
theorem sc_is_whole : FnScope NN_is_whole P_is_whole (defScope s_is_whole) := C8.fnScope_by (by decide +kernel)
theorem len_is_whole (c : Cs) (ds : List D) (M : Mp) (Q : DQ) (h : S_is_whole c ds M Q) : ds.length = P_is_whole.length := by
  unfold S_is_whole at h
  repeat' (first | (obtain ⟨rfl, _⟩ := h; rfl; done) | (refine Or.elim h (fun h => ?_) (fun h => ?_)) | (obtain ⟨_, h⟩ := h))
theorem ok_is_whole {P : Program} {w : World} {K : PySem.W.Frag} {mg : Str → Option Value} {base : Heap} {f : Addr} {fd : FuncData} {c : Cs} {kws : List (Str × V)} (L : Lw P w K mg base c) (F : FunD K "is_whole" "is_whole" (defArgs s_is_whole) (defBody s_is_whole) (defScope s_is_whole) [] kws f fd)  : FnOk P w K mg base CX0 1 f fd P_is_whole (spD K (S_is_whole c)) := by
  refine fn_okP (k := 0) F sc_is_whole (ir_is_whole c) (len_is_whole c) (mt_is_whole c) (fun A hr => ?_) (use_is_whole c)
  simp only [ir_is_whole, Ss.ok, S.ok, E.ok, Es.ok, Oe.ok, Wk.ok, Es.len, Blt.nm, Blt.isRepr, Bool.false_eq_true, false_implies, and_true, true_and, Nat.zero_add, Nat.reduceAdd, List.length_cons, List.length_nil]
  repeat' (first | exact trivial | rfl | exact isaB_ok L.b_isinstance L.b_bool (by decide) | exact isaB_ok L.b_isinstance L.b_int (by decide) | exact L.cP | exact L.cw | apply And.intro)
abbrev P_are_whole : List Str := ["thing", "low", "high"]
abbrev NN_are_whole : List Str := ["thing", "low", "high", "one"]
theorem mt_are_whole (c : Cs) : (ir_are_whole c).mt ⟨NN_are_whole, defScope s_are_whole, fun _ => true⟩ (defBody s_are_whole) = true := by kernel_rfl
theorem sc_are_whole : FnScope NN_are_whole P_are_whole (defScope s_are_whole) := C8.fnScope_by (by decide +kernel)
theorem len_are_whole (c : Cs) (ds : List D) (M : Mp) (Q : DQ) (h : S_are_whole c ds M Q) : ds.length = P_are_whole.length := by
  unfold S_are_whole at h
  repeat' (first | (obtain ⟨rfl, _⟩ := h; rfl; done) | (refine Or.elim h (fun h => ?_) (fun h => ?_)) | (obtain ⟨_, h⟩ := h))
theorem ok_are_whole {P : Program} {w : World} {K : PySem.W.Frag} {mg : Str → Option Value} {base : Heap} {f : Addr} {fd : FuncData} {c : Cs} {kws : List (Str × V)} (L : Lw P w K mg base c) (F : FunD K "are_whole" "are_whole" (defArgs s_are_whole) (defBody s_are_whole) (defScope s_are_whole) [] kws f fd) (h0 : Pr P w K mg base 1 "is_whole" 3 [] (S_is_whole c)) : FnOk P w K mg base CX0 2 f fd P_are_whole (spD K (S_are_whole c)) := by
  refine fn_okP (k := 1) F sc_are_whole (ir_are_whole c) (len_are_whole c) (mt_are_whole c) (fun A hr => ?_) (use_are_whole c)
  have qh0 := h0 A (hr.mono (by decide))
  simp only [ir_are_whole, Ss.ok, S.ok, E.ok, Es.ok, Oe.ok, Wk.ok, Es.len, Blt.nm, Blt.isRepr, Bool.false_eq_true, false_implies, and_true, true_and, Nat.zero_add, Nat.reduceAdd, List.length_cons, List.length_nil]
  repeat' (first | exact trivial | rfl | exact qh0 | exact L.b_all | exact isaB_ok L.b_isinstance L.b_tuple (by decide) | exact L.cP | exact L.cw | apply And.intro)
abbrev P_are_lists : List Str := ["thing", "many"]
abbrev NN_are_lists : List Str := ["thing", "many", "name", "marks"]
theorem mt_are_lists (c : Cs) : (ir_are_lists c).mt ⟨NN_are_lists, defScope s_are_lists, fun _ => true⟩ (defBody s_are_lists) = true := by kernel_rfl
theorem sc_are_lists : FnScope NN_are_lists P_are_lists (defScope s_are_lists) := C8.fnScope_by (by decide +kernel)
theorem len_are_lists (c : Cs) (ds : List D) (M : Mp) (Q : DQ) (h : S_are_lists c ds M Q) : ds.length = P_are_lists.length := by
  unfold S_are_lists at h
  repeat' (first | (obtain ⟨rfl, _⟩ := h; rfl; done) | (refine Or.elim h (fun h => ?_) (fun h => ?_)) | (obtain ⟨_, h⟩ := h))
theorem ok_are_lists {P : Program} {w : World} {K : PySem.W.Frag} {mg : Str → Option Value} {base : Heap} {f : Addr} {fd : FuncData} {c : Cs} {kws : List (Str × V)} (L : Lw P w K mg base c) (F : FunD K "are_lists" "are_lists" (defArgs s_are_lists) (defBody s_are_lists) (defScope s_are_lists) [] kws f fd) (h0 : Pr P w K mg base 2 "are_called" 2 [] (S_are_called c)) (h1 : Pr P w K mg base 1 "are_rising" 1 [] (S_are_rising c)) (h2 : Pr P w K mg base 2 "are_whole" 3 [] (S_are_whole c)) : FnOk P w K mg base CX0 3 f fd P_are_lists (spD K (S_are_lists c)) := by
  refine fn_okP (k := 2) F sc_are_lists (ir_are_lists c) (len_are_lists c) (mt_are_lists c) (fun A hr => ?_) (use_are_lists c)
  have qh0 := h0 A (hr.mono (by decide))
  have qh1 := h1 A (hr.mono (by decide))
  have qh2 := h2 A (hr.mono (by decide))
  simp only [ir_are_lists, Ss.ok, S.ok, E.ok, Es.ok, Oe.ok, Wk.ok, Es.len, Blt.nm, Blt.isRepr, Bool.false_eq_true, false_implies, and_true, true_and, Nat.zero_add, Nat.reduceAdd, List.length_cons, List.length_nil]
  repeat' (first | exact trivial | rfl | exact qh0 | exact qh1 | exact qh2 | exact L.b_all | exact L.g_MOST_LISTS | exact L.cP | exact L.cw | apply And.intro)
abbrev P_are_pairs : List Str := ["thing", "low", "high"]
abbrev NN_are_pairs : List Str := ["thing", "low", "high", "pair"]
theorem mt_are_pairs (c : Cs) : (ir_are_pairs c).mt ⟨NN_are_pairs, defScope s_are_pairs, fun _ => true⟩ (defBody s_are_pairs) = true := by kernel_rfl
theorem sc_are_pairs : FnScope NN_are_pairs P_are_pairs (defScope s_are_pairs) := C8.fnScope_by (by decide +kernel)
theorem len_are_pairs (c : Cs) (ds : List D) (M : Mp) (Q : DQ) (h : S_are_pairs c ds M Q) : ds.length = P_are_pairs.length := by
  unfold S_are_pairs at h
  repeat' (first | (obtain ⟨rfl, _⟩ := h; rfl; done) | (refine Or.elim h (fun h => ?_) (fun h => ?_)) | (obtain ⟨_, h⟩ := h))
theorem ok_are_pairs {P : Program} {w : World} {K : PySem.W.Frag} {mg : Str → Option Value} {base : Heap} {f : Addr} {fd : FuncData} {c : Cs} {kws : List (Str × V)} (L : Lw P w K mg base c) (F : FunD K "are_pairs" "are_pairs" (defArgs s_are_pairs) (defBody s_are_pairs) (defScope s_are_pairs) [] kws f fd) (h0 : Pr P w K mg base 1 "are_rising" 1 [] (S_are_rising c)) (h1 : Pr P w K mg base 2 "are_whole" 3 [] (S_are_whole c)) : FnOk P w K mg base CX0 3 f fd P_are_pairs (spD K (S_are_pairs c)) := by
  refine fn_okP (k := 2) F sc_are_pairs (ir_are_pairs c) (len_are_pairs c) (mt_are_pairs c) (fun A hr => ?_) (use_are_pairs c)
  have qh0 := h0 A (hr.mono (by decide))
  have qh1 := h1 A (hr.mono (by decide))
  simp only [ir_are_pairs, Ss.ok, S.ok, E.ok, Es.ok, Oe.ok, Wk.ok, Es.len, Blt.nm, Blt.isRepr, Bool.false_eq_true, false_implies, and_true, true_and, Nat.zero_add, Nat.reduceAdd, List.length_cons, List.length_nil]
  repeat' (first | exact trivial | rfl | exact qh0 | exact qh1 | exact L.b_all | exact L.b_len | exact isaB_ok L.b_isinstance L.b_tuple (by decide) | exact L.cP | exact L.cw | apply And.intro)
abbrev P_are_rules : List Str := ["thing", "many"]
abbrev NN_are_rules : List Str := ["thing", "many", "name", "pairs"]
theorem mt_are_rules (c : Cs) : (ir_are_rules c).mt ⟨NN_are_rules, defScope s_are_rules, fun _ => true⟩ (defBody s_are_rules) = true := by kernel_rfl
theorem sc_are_rules : FnScope NN_are_rules P_are_rules (defScope s_are_rules) := C8.fnScope_by (by decide +kernel)
theorem len_are_rules (c : Cs) (ds : List D) (M : Mp) (Q : DQ) (h : S_are_rules c ds M Q) : ds.length = P_are_rules.length := by
  unfold S_are_rules at h
  repeat' (first | (obtain ⟨rfl, _⟩ := h; rfl; done) | (refine Or.elim h (fun h => ?_) (fun h => ?_)) | (obtain ⟨_, h⟩ := h))
theorem ok_are_rules {P : Program} {w : World} {K : PySem.W.Frag} {mg : Str → Option Value} {base : Heap} {f : Addr} {fd : FuncData} {c : Cs} {kws : List (Str × V)} (L : Lw P w K mg base c) (F : FunD K "are_rules" "are_rules" (defArgs s_are_rules) (defBody s_are_rules) (defScope s_are_rules) [] kws f fd) (h0 : Pr P w K mg base 2 "are_called" 2 [] (S_are_called c)) (h1 : Pr P w K mg base 3 "are_pairs" 3 [] (S_are_pairs c)) : FnOk P w K mg base CX0 4 f fd P_are_rules (spD K (S_are_rules c)) := by
  refine fn_okP (k := 3) F sc_are_rules (ir_are_rules c) (len_are_rules c) (mt_are_rules c) (fun A hr => ?_) (use_are_rules c)
  have qh0 := h0 A (hr.mono (by decide))
  have qh1 := h1 A (hr.mono (by decide))
  simp only [ir_are_rules, Ss.ok, S.ok, E.ok, Es.ok, Oe.ok, Wk.ok, Es.len, Blt.nm, Blt.isRepr, Bool.false_eq_true, false_implies, and_true, true_and, Nat.zero_add, Nat.reduceAdd, List.length_cons, List.length_nil]
  repeat' (first | exact trivial | rfl | exact qh0 | exact qh1 | exact L.b_all | exact L.g_MOST_RULES | exact L.cP | exact L.cw | apply And.intro)
abbrev P_House_init : List Str := ["self", "many", "rules", "lists"]
abbrev NN_House_init : List Str := ["self", "many", "rules", "lists", "pair", "name", "pairs", "mark", "marks"]
theorem mt_House_init (c : Cs) : (ir_House_init c).mt ⟨NN_House_init, defScope s_House_init, fun _ => true⟩ (defBody s_House_init) = true := by kernel_rfl
theorem sc_House_init : FnScope NN_House_init P_House_init (defScope s_House_init) := C8.fnScope_by (by decide +kernel)
theorem len_House_init (c : Cs) (ds : List D) (M : Mp) (Q : DQ) (h : S_House_init c ds M Q) : ds.length = P_House_init.length := by
  unfold S_House_init at h
  repeat' (first | (obtain ⟨rfl, _⟩ := h; rfl; done) | (refine Or.elim h (fun h => ?_) (fun h => ?_)) | (obtain ⟨_, h⟩ := h))
theorem ok_House_init {P : Program} {w : World} {K : PySem.W.Frag} {mg : Str → Option Value} {base : Heap} {f : Addr} {fd : FuncData} {c : Cs} {kws : List (Str × V)} (L : Lw P w K mg base c) (F : FunD K "__init__" "House.__init__" (defArgs s_House_init) (defBody s_House_init) (defScope s_House_init) [] kws f fd) (h0 : Pr P w K mg base 3 "are_lists" 2 [] (S_are_lists c)) (h1 : Pr P w K mg base 4 "are_rules" 2 [] (S_are_rules c)) (h2 : Pr P w K mg base 1 "is_whole" 3 [] (S_is_whole c)) : FnOk P w K mg base CX0 5 f fd P_House_init (spD K (S_House_init c)) := by
  refine fn_okP (k := 4) F sc_House_init (ir_House_init c) (len_House_init c) (mt_House_init c) (fun A hr => ?_) (use_House_init c)
  have qh0 := h0 A (hr.mono (by decide))
  have qh1 := h1 A (hr.mono (by decide))
  have qh2 := h2 A (hr.mono (by decide))
  simp only [ir_House_init, Ss.ok, S.ok, E.ok, Es.ok, Oe.ok, Wk.ok, Es.len, Blt.nm, Blt.isRepr, Bool.false_eq_true, false_implies, and_true, true_and, Nat.zero_add, Nat.reduceAdd, List.length_cons, List.length_nil]
  repeat' (first | exact trivial | rfl | exact qh0 | exact qh1 | exact qh2 | exact L.g_MOST_MARKS | exact L.f_House_lists | exact L.f_House_many | exact L.f_House_marks_by | exact L.f_House_pairs_by | exact L.f_House_rules | exact L.cP | exact L.cw | apply And.intro)
abbrev P_l_built : List Str := ["_law_home_here"]
abbrev NN_l_built : List Str := ["_law_home_here"]
theorem mt_l_built (c : Cs) : (ir_l_built c).mt ⟨NN_l_built, defScope s_l_built, fun _ => true⟩ (defBody s_l_built) = true := by kernel_rfl
theorem sc_l_built : FnScope NN_l_built P_l_built (defScope s_l_built) := C8.fnScope_by (by decide +kernel)
theorem len_l_built (c : Cs) (ds : List D) (M : Mp) (Q : DQ) (h : S_l_built c ds M Q) : ds.length = P_l_built.length := by
  unfold S_l_built at h
  repeat' (first | (obtain ⟨rfl, _⟩ := h; rfl; done) | (refine Or.elim h (fun h => ?_) (fun h => ?_)) | (obtain ⟨_, h⟩ := h))
theorem ok_l_built {P : Program} {w : World} {K : PySem.W.Frag} {mg : Str → Option Value} {base : Heap} {f : Addr} {fd : FuncData} {c : Cs} {kws : List (Str × V)} (L : Lw P w K mg base c) (F : FunD K "_law_built" "_law_built" (defArgs s_l_built) (defBody s_l_built) (defScope s_l_built) [] kws f fd) (h0 : Pr P w K mg base 6 "House" 1 ["rules", "lists"] (S_House_K1_rules_lists c)) : FnOk P w K mg base CX0 7 f fd P_l_built (spD K (S_l_built c)) := by
  refine fn_okP (k := 6) F sc_l_built (ir_l_built c) (len_l_built c) (mt_l_built c) (fun A hr => ?_) (use_l_built c)
  have qh0 := h0 A (hr.mono (by decide))
  simp only [ir_l_built, Ss.ok, S.ok, E.ok, Es.ok, Oe.ok, Wk.ok, Es.len, Blt.nm, Blt.isRepr, Bool.false_eq_true, false_implies, and_true, true_and, Nat.zero_add, Nat.reduceAdd, List.length_cons, List.length_nil]
  repeat' (first | exact trivial | rfl | exact qh0 | exact L.cP | exact L.cw | apply And.intro)
abbrev P_l_due : List Str := ["_law_home_here", "_law_mesh_here"]
abbrev NN_l_due : List Str := ["_law_home_here", "_law_mesh_here", "_law_ruled", "_law_listed", "_law_one"]
theorem mt_l_due (c : Cs) : (ir_l_due c).mt ⟨NN_l_due, defScope s_l_due, fun _ => true⟩ (defBody s_l_due) = true := by kernel_rfl
theorem sc_l_due : FnScope NN_l_due P_l_due (defScope s_l_due) := C8.fnScope_by (by decide +kernel)
theorem len_l_due (c : Cs) (ds : List D) (M : Mp) (Q : DQ) (h : S_l_due c ds M Q) : ds.length = P_l_due.length := by
  unfold S_l_due at h
  repeat' (first | (obtain ⟨rfl, _⟩ := h; rfl; done) | (refine Or.elim h (fun h => ?_) (fun h => ?_)) | (obtain ⟨_, h⟩ := h))
theorem ok_l_due {P : Program} {w : World} {K : PySem.W.Frag} {mg : Str → Option Value} {base : Heap} {f : Addr} {fd : FuncData} {c : Cs} {kws : List (Str × V)} (L : Lw P w K mg base c) (F : FunD K "_law_due" "_law_due" (defArgs s_l_due) (defBody s_l_due) (defScope s_l_due) [] kws f fd)  : FnOk P w K mg base CX0 1 f fd P_l_due (spD K (S_l_due c)) := by
  refine fn_okP (k := 0) F sc_l_due (ir_l_due c) (len_l_due c) (mt_l_due c) (fun A hr => ?_) (use_l_due c)
  simp only [ir_l_due, Ss.ok, S.ok, E.ok, Es.ok, Oe.ok, Wk.ok, Es.len, Blt.nm, Blt.isRepr, Bool.false_eq_true, false_implies, and_true, true_and, Nat.zero_add, Nat.reduceAdd, List.length_cons, List.length_nil]
  repeat' (first | exact trivial | rfl | exact L.b_all | exact L.cP | exact L.cw | apply And.intro)
abbrev P_l_take : List Str := ["_law_pot_here", "_law_upto"]
abbrev NN_l_take : List Str := ["_law_pot_here", "_law_upto", "_law_digit"]
theorem mt_l_take (c : Cs) : (ir_l_take c).mt ⟨NN_l_take, defScope s_l_take, fun _ => true⟩ (defBody s_l_take) = true := by kernel_rfl
theorem sc_l_take : FnScope NN_l_take P_l_take (defScope s_l_take) := C8.fnScope_by (by decide +kernel)
theorem len_l_take (c : Cs) (ds : List D) (M : Mp) (Q : DQ) (h : S_l_take c ds M Q) : ds.length = P_l_take.length := by
  unfold S_l_take at h
  repeat' (first | (obtain ⟨rfl, _⟩ := h; rfl; done) | (refine Or.elim h (fun h => ?_) (fun h => ?_)) | (obtain ⟨_, h⟩ := h))
theorem ok_l_take {P : Program} {w : World} {K : PySem.W.Frag} {mg : Str → Option Value} {base : Heap} {f : Addr} {fd : FuncData} {c : Cs} {kws : List (Str × V)} (L : Lw P w K mg base c) (F : FunD K "_law_take" "_law_take" (defArgs s_l_take) (defBody s_l_take) (defScope s_l_take) [] kws f fd)  : FnOk P w K mg base CX0 1 f fd P_l_take (spD K (S_l_take c)) := by
  refine fn_okG (k := 0) F sc_l_take (ir_l_take c) (len_l_take c) (mt_l_take c) (fun A hr => ?_) (useP_l_take c)
  simp only [ir_l_take, Ss.ok, S.ok, E.ok, Es.ok, Oe.ok, Wk.ok, Es.len, Blt.nm, Blt.isRepr, Bool.false_eq_true, false_implies, and_true, true_and, Nat.zero_add, Nat.reduceAdd, List.length_cons, List.length_nil]
  repeat' (first | exact trivial | rfl | exact L.cP | exact L.cw | apply And.intro)
abbrev P_l_of : List Str := ["_law_pot_here", "_law_some"]
abbrev NN_l_of : List Str := ["_law_pot_here", "_law_some"]
theorem mt_l_of (c : Cs) : (ir_l_of c).mt ⟨NN_l_of, defScope s_l_of, fun _ => true⟩ (defBody s_l_of) = true := by kernel_rfl
theorem sc_l_of : FnScope NN_l_of P_l_of (defScope s_l_of) := C8.fnScope_by (by decide +kernel)
theorem len_l_of (c : Cs) (ds : List D) (M : Mp) (Q : DQ) (h : S_l_of c ds M Q) : ds.length = P_l_of.length := by
  unfold S_l_of at h
  repeat' (first | (obtain ⟨rfl, _⟩ := h; rfl; done) | (refine Or.elim h (fun h => ?_) (fun h => ?_)) | (obtain ⟨_, h⟩ := h))
theorem ok_l_of {P : Program} {w : World} {K : PySem.W.Frag} {mg : Str → Option Value} {base : Heap} {f : Addr} {fd : FuncData} {c : Cs} {kws : List (Str × V)} (L : Lw P w K mg base c) (F : FunD K "_law_of" "_law_of" (defArgs s_l_of) (defBody s_l_of) (defScope s_l_of) [] kws f fd) (h0 : Pr P w K mg base 1 "_law_take" 2 [] (S_l_take c)) : FnOk P w K mg base CX0 2 f fd P_l_of (spD K (S_l_of c)) := by
  refine fn_okP (k := 1) F sc_l_of (ir_l_of c) (len_l_of c) (mt_l_of c) (fun A hr => ?_) (use_l_of c)
  have qh0 := h0 A (hr.mono (by decide))
  simp only [ir_l_of, Ss.ok, S.ok, E.ok, Es.ok, Oe.ok, Wk.ok, Es.len, Blt.nm, Blt.isRepr, Bool.false_eq_true, false_implies, and_true, true_and, Nat.zero_add, Nat.reduceAdd, List.length_cons, List.length_nil]
  repeat' (first | exact trivial | rfl | exact qh0 | exact L.b_len | exact L.cP | exact L.cw | apply And.intro)
abbrev P_l_names : List Str := ["_law_pot_here", "_law_many"]
abbrev NN_l_names : List Str := ["_law_pot_here", "_law_many", "_law_stem", "_law_letters", "_law_at", "_law_first", "_law_leap", "_law_k", "_law_letter"]
theorem mt_l_names (c : Cs) : (ir_l_names c).mt ⟨NN_l_names, defScope s_l_names, fun _ => true⟩ (defBody s_l_names) = true := by kernel_rfl
theorem sc_l_names : FnScope NN_l_names P_l_names (defScope s_l_names) := C8.fnScope_by (by decide +kernel)
theorem len_l_names (c : Cs) (ds : List D) (M : Mp) (Q : DQ) (h : S_l_names c ds M Q) : ds.length = P_l_names.length := by
  unfold S_l_names at h
  repeat' (first | (obtain ⟨rfl, _⟩ := h; rfl; done) | (refine Or.elim h (fun h => ?_) (fun h => ?_)) | (obtain ⟨_, h⟩ := h))
theorem ok_l_names {P : Program} {w : World} {K : PySem.W.Frag} {mg : Str → Option Value} {base : Heap} {f : Addr} {fd : FuncData} {c : Cs} {kws : List (Str × V)} (L : Lw P w K mg base c) (F : FunD K "_law_names" "_law_names" (defArgs s_l_names) (defBody s_l_names) (defScope s_l_names) [] kws f fd) (h0 : Pr P w K mg base 2 "_law_of" 2 [] (S_l_of c)) (h1 : Pr P w K mg base 1 "_law_take" 2 [] (S_l_take c)) : FnOk P w K mg base CX0 3 f fd P_l_names (spD K (S_l_names c)) := by
  refine fn_okP (k := 2) F sc_l_names (ir_l_names c) (len_l_names c) (mt_l_names c) (fun A hr => ?_) (use_l_names c)
  have qh0 := h0 A (hr.mono (by decide))
  have qh1 := h1 A (hr.mono (by decide))
  simp only [ir_l_names, Ss.ok, S.ok, E.ok, Es.ok, Oe.ok, Wk.ok, Es.len, Blt.nm, Blt.isRepr, Bool.false_eq_true, false_implies, and_true, true_and, Nat.zero_add, Nat.reduceAdd, List.length_cons, List.length_nil]
  repeat' (first | exact trivial | rfl | exact qh0 | exact qh1 | exact L.b_len | exact L.b_list | exact L.b_sorted | exact L.b_range | exact L.cP | exact L.cw | apply And.intro)
abbrev P_l_all_pairs : List Str := ["_law_size"]
abbrev NN_l_all_pairs : List Str := ["_law_size", "_law_at"]
theorem mt_l_all_pairs (c : Cs) : (ir_l_all_pairs c).mt ⟨NN_l_all_pairs, defScope s_l_all_pairs, fun _ => true⟩ (defBody s_l_all_pairs) = true := by kernel_rfl
theorem sc_l_all_pairs : FnScope NN_l_all_pairs P_l_all_pairs (defScope s_l_all_pairs) := C8.fnScope_by (by decide +kernel)
theorem len_l_all_pairs (c : Cs) (ds : List D) (M : Mp) (Q : DQ) (h : S_l_all_pairs c ds M Q) : ds.length = P_l_all_pairs.length := by
  unfold S_l_all_pairs at h
  repeat' (first | (obtain ⟨rfl, _⟩ := h; rfl; done) | (refine Or.elim h (fun h => ?_) (fun h => ?_)) | (obtain ⟨_, h⟩ := h))
theorem ok_l_all_pairs {P : Program} {w : World} {K : PySem.W.Frag} {mg : Str → Option Value} {base : Heap} {f : Addr} {fd : FuncData} {c : Cs} {kws : List (Str × V)} (L : Lw P w K mg base c) (F : FunD K "_law_all_pairs" "_law_all_pairs" (defArgs s_l_all_pairs) (defBody s_l_all_pairs) (defScope s_l_all_pairs) [] kws f fd)  : FnOk P w K mg base CX0 1 f fd P_l_all_pairs (spD K (S_l_all_pairs c)) := by
  refine fn_okP (k := 0) F sc_l_all_pairs (ir_l_all_pairs c) (len_l_all_pairs c) (mt_l_all_pairs c) (fun A hr => ?_) (use_l_all_pairs c)
  simp only [ir_l_all_pairs, Ss.ok, S.ok, E.ok, Es.ok, Oe.ok, Wk.ok, Es.len, Blt.nm, Blt.isRepr, Bool.false_eq_true, false_implies, and_true, true_and, Nat.zero_add, Nat.reduceAdd, List.length_cons, List.length_nil]
  repeat' (first | exact trivial | rfl | exact L.b_range | exact L.cP | exact L.cw | apply And.intro)
abbrev P_l_pairs : List Str := ["_law_pot_here", "_law_size"]
abbrev NN_l_pairs : List Str := ["_law_pot_here", "_law_size", "_law_share", "_law_way", "_law_every", "_law_pair", "_law_mark"]
theorem mt_l_pairs (c : Cs) : (ir_l_pairs c).mt ⟨NN_l_pairs, defScope s_l_pairs, fun _ => true⟩ (defBody s_l_pairs) = true := by kernel_rfl
theorem sc_l_pairs : FnScope NN_l_pairs P_l_pairs (defScope s_l_pairs) := C8.fnScope_by (by decide +kernel)
theorem len_l_pairs (c : Cs) (ds : List D) (M : Mp) (Q : DQ) (h : S_l_pairs c ds M Q) : ds.length = P_l_pairs.length := by
  unfold S_l_pairs at h
  repeat' (first | (obtain ⟨rfl, _⟩ := h; rfl; done) | (refine Or.elim h (fun h => ?_) (fun h => ?_)) | (obtain ⟨_, h⟩ := h))
theorem ok_l_pairs {P : Program} {w : World} {K : PySem.W.Frag} {mg : Str → Option Value} {base : Heap} {f : Addr} {fd : FuncData} {c : Cs} {kws : List (Str × V)} (L : Lw P w K mg base c) (F : FunD K "_law_pairs" "_law_pairs" (defArgs s_l_pairs) (defBody s_l_pairs) (defScope s_l_pairs) [] kws f fd) (h0 : Pr P w K mg base 1 "_law_all_pairs" 1 [] (S_l_all_pairs c)) (h1 : Pr P w K mg base 1 "_law_take" 2 [] (S_l_take c)) : FnOk P w K mg base CX0 2 f fd P_l_pairs (spD K (S_l_pairs c)) := by
  refine fn_okP (k := 1) F sc_l_pairs (ir_l_pairs c) (len_l_pairs c) (mt_l_pairs c) (fun A hr => ?_) (use_l_pairs c)
  have qh0 := h0 A (hr.mono (by decide))
  have qh1 := h1 A (hr.mono (by decide))
  simp only [ir_l_pairs, Ss.ok, S.ok, E.ok, Es.ok, Oe.ok, Wk.ok, Es.len, Blt.nm, Blt.isRepr, Bool.false_eq_true, false_implies, and_true, true_and, Nat.zero_add, Nat.reduceAdd, List.length_cons, List.length_nil]
  repeat' (first | exact trivial | rfl | exact qh0 | exact qh1 | exact L.b_tuple | exact L.b_range | exact L.cP | exact L.cw | apply And.intro)
abbrev P_l_home : List Str := ["_law_pot_here", "_law_most"]
abbrev NN_l_home : List Str := ["_law_pot_here", "_law_most", "_law_laid", "_law_kept", "_law_name", "_law_size", "_law_names_here", "_law_mark"]
theorem mt_l_home (c : Cs) : (ir_l_home c).mt ⟨NN_l_home, defScope s_l_home, fun _ => true⟩ (defBody s_l_home) = true := by kernel_rfl
theorem sc_l_home : FnScope NN_l_home P_l_home (defScope s_l_home) := C8.fnScope_by (by decide +kernel)
theorem len_l_home (c : Cs) (ds : List D) (M : Mp) (Q : DQ) (h : S_l_home c ds M Q) : ds.length = P_l_home.length := by
  unfold S_l_home at h
  repeat' (first | (obtain ⟨rfl, _⟩ := h; rfl; done) | (refine Or.elim h (fun h => ?_) (fun h => ?_)) | (obtain ⟨_, h⟩ := h))
theorem ok_l_home {P : Program} {w : World} {K : PySem.W.Frag} {mg : Str → Option Value} {base : Heap} {f : Addr} {fd : FuncData} {c : Cs} {kws : List (Str × V)} (L : Lw P w K mg base c) (F : FunD K "_law_home" "_law_home" (defArgs s_l_home) (defBody s_l_home) (defScope s_l_home) [] kws f fd) (h0 : Pr P w K mg base 3 "_law_names" 2 [] (S_l_names c)) (h1 : Pr P w K mg base 2 "_law_pairs" 2 [] (S_l_pairs c)) (h2 : Pr P w K mg base 1 "_law_take" 2 [] (S_l_take c)) : FnOk P w K mg base CX0 4 f fd P_l_home (spD K (S_l_home c)) := by
  refine fn_okP (k := 3) F sc_l_home (ir_l_home c) (len_l_home c) (mt_l_home c) (fun A hr => ?_) (use_l_home c)
  have qh0 := h0 A (hr.mono (by decide))
  have qh1 := h1 A (hr.mono (by decide))
  have qh2 := h2 A (hr.mono (by decide))
  simp only [ir_l_home, Ss.ok, S.ok, E.ok, Es.ok, Oe.ok, Wk.ok, Es.len, Blt.nm, Blt.isRepr, Bool.false_eq_true, false_implies, and_true, true_and, Nat.zero_add, Nat.reduceAdd, List.length_cons, List.length_nil]
  repeat' (first | exact trivial | rfl | exact qh0 | exact qh1 | exact qh2 | exact L.b_tuple | exact L.b_range | exact L.cP | exact L.cw | apply And.intro)
abbrev P_l_mesh : List Str := ["_law_pot_here", "_law_home_here", "_law_most", "_law_ties"]
abbrev NN_l_mesh : List Str := ["_law_pot_here", "_law_home_here", "_law_most", "_law_ties", "_law_turn", "_law_many", "_law_found", "_law_named", "_law_rule", "_law_one", "_law_other"]
theorem mt_l_mesh (c : Cs) : (ir_l_mesh c).mt ⟨NN_l_mesh, defScope s_l_mesh, fun _ => true⟩ (defBody s_l_mesh) = true := by kernel_rfl
theorem sc_l_mesh : FnScope NN_l_mesh P_l_mesh (defScope s_l_mesh) := C8.fnScope_by (by decide +kernel)
theorem len_l_mesh (c : Cs) (ds : List D) (M : Mp) (Q : DQ) (h : S_l_mesh c ds M Q) : ds.length = P_l_mesh.length := by
  unfold S_l_mesh at h
  repeat' (first | (obtain ⟨rfl, _⟩ := h; rfl; done) | (refine Or.elim h (fun h => ?_) (fun h => ?_)) | (obtain ⟨_, h⟩ := h))
theorem ok_l_mesh {P : Program} {w : World} {K : PySem.W.Frag} {mg : Str → Option Value} {base : Heap} {f : Addr} {fd : FuncData} {c : Cs} {kws : List (Str × V)} (L : Lw P w K mg base c) (F : FunD K "_law_mesh" "_law_mesh" (defArgs s_l_mesh) (defBody s_l_mesh) (defScope s_l_mesh) [] kws f fd) (h0 : Pr P w K mg base 2 "_law_of" 2 [] (S_l_of c)) (h1 : Pr P w K mg base 1 "_law_take" 2 [] (S_l_take c)) : FnOk P w K mg base CX0 3 f fd P_l_mesh (spD K (S_l_mesh c)) := by
  refine fn_okP (k := 2) F sc_l_mesh (ir_l_mesh c) (len_l_mesh c) (mt_l_mesh c) (fun A hr => ?_) (use_l_mesh c)
  have qh0 := h0 A (hr.mono (by decide))
  have qh1 := h1 A (hr.mono (by decide))
  simp only [ir_l_mesh, Ss.ok, S.ok, E.ok, Es.ok, Oe.ok, Wk.ok, Es.len, Blt.nm, Blt.isRepr, Bool.false_eq_true, false_implies, and_true, true_and, Nat.zero_add, Nat.reduceAdd, List.length_cons, List.length_nil]
  repeat' (first | exact trivial | rfl | exact qh0 | exact qh1 | exact L.b_int | exact L.b_list | exact L.b_sorted | exact L.b_tuple | exact L.b_range | exact L.cP | exact L.cw | apply And.intro)
abbrev P_l_others : List Str := ["_law_pot_here", "_law_home_here", "_law_mesh_here"]
abbrev NN_l_others : List Str := ["_law_pot_here", "_law_home_here", "_law_mesh_here", "_law_names_here", "_law_some", "_law_many", "_law_found", "_law_named", "_law_tie", "_law_one"]
theorem mt_l_others (c : Cs) : (ir_l_others c).mt ⟨NN_l_others, defScope s_l_others, fun _ => true⟩ (defBody s_l_others) = true := by kernel_rfl
theorem sc_l_others : FnScope NN_l_others P_l_others (defScope s_l_others) := C8.fnScope_by (by decide +kernel)
theorem len_l_others (c : Cs) (ds : List D) (M : Mp) (Q : DQ) (h : S_l_others c ds M Q) : ds.length = P_l_others.length := by
  unfold S_l_others at h
  repeat' (first | (obtain ⟨rfl, _⟩ := h; rfl; done) | (refine Or.elim h (fun h => ?_) (fun h => ?_)) | (obtain ⟨_, h⟩ := h))
theorem ok_l_others {P : Program} {w : World} {K : PySem.W.Frag} {mg : Str → Option Value} {base : Heap} {f : Addr} {fd : FuncData} {c : Cs} {kws : List (Str × V)} (L : Lw P w K mg base c) (F : FunD K "_law_others" "_law_others" (defArgs s_l_others) (defBody s_l_others) (defScope s_l_others) [] kws f fd) (h0 : Pr P w K mg base 2 "_law_of" 2 [] (S_l_of c)) (h1 : Pr P w K mg base 1 "_law_take" 2 [] (S_l_take c)) : FnOk P w K mg base CX0 3 f fd P_l_others (spD K (S_l_others c)) := by
  refine fn_okP (k := 2) F sc_l_others (ir_l_others c) (len_l_others c) (mt_l_others c) (fun A hr => ?_) (use_l_others c)
  have qh0 := h0 A (hr.mono (by decide))
  have qh1 := h1 A (hr.mono (by decide))
  simp only [ir_l_others, Ss.ok, S.ok, E.ok, Es.ok, Oe.ok, Wk.ok, Es.len, Blt.nm, Blt.isRepr, Bool.false_eq_true, false_implies, and_true, true_and, Nat.zero_add, Nat.reduceAdd, List.length_cons, List.length_nil]
  repeat' (first | exact trivial | rfl | exact qh0 | exact qh1 | exact L.b_set | exact L.b_sorted | exact L.b_tuple | exact L.cP | exact L.cw | apply And.intro)
abbrev P_l_pot : List Str := ["_law_script", "_law_k"]
abbrev NN_l_pot : List Str := ["_law_script", "_law_k", "_law_cell", "_law_great"]
theorem mt_l_pot (c : Cs) : (ir_l_pot c).mt ⟨NN_l_pot, defScope s_l_pot, fun _ => true⟩ (defBody s_l_pot) = true := by kernel_rfl
theorem sc_l_pot : FnScope NN_l_pot P_l_pot (defScope s_l_pot) := C8.fnScope_by (by decide +kernel)
theorem len_l_pot (c : Cs) (ds : List D) (M : Mp) (Q : DQ) (h : S_l_pot c ds M Q) : ds.length = P_l_pot.length := by
  unfold S_l_pot at h
  repeat' (first | (obtain ⟨rfl, _⟩ := h; rfl; done) | (refine Or.elim h (fun h => ?_) (fun h => ?_)) | (obtain ⟨_, h⟩ := h))
theorem ok_l_pot {P : Program} {w : World} {K : PySem.W.Frag} {mg : Str → Option Value} {base : Heap} {f : Addr} {fd : FuncData} {c : Cs} {kws : List (Str × V)} (L : Lw P w K mg base c) (F : FunD K "_law_pot" "_law_pot" (defArgs s_l_pot) (defBody s_l_pot) (defScope s_l_pot) [] kws f fd)  : FnOk P w K mg base CX0 1 f fd P_l_pot (spD K (S_l_pot c)) := by
  refine fn_okG (k := 0) F sc_l_pot (ir_l_pot c) (len_l_pot c) (mt_l_pot c) (fun A hr => ?_) (useP_l_pot c)
  simp only [ir_l_pot, Ss.ok, S.ok, E.ok, Es.ok, Oe.ok, Wk.ok, Es.len, Blt.nm, Blt.isRepr, Bool.false_eq_true, false_implies, and_true, true_and, Nat.zero_add, Nat.reduceAdd, List.length_cons, List.length_nil]
  repeat' (first | exact trivial | rfl | exact L.b_abs | exact L.b_int | exact L.b_len | exact L.b_int | exact L.nd | exact L.cP | exact L.cw | apply And.intro)
abbrev P_are_ties : List Str := ["thing", "knots", "size", "most"]
abbrev NN_are_ties : List Str := ["thing", "knots", "size", "most", "tie"]
theorem mt_are_ties (c : Cs) : (ir_are_ties c).mt ⟨NN_are_ties, defScope s_are_ties, fun _ => true⟩ (defBody s_are_ties) = true := by kernel_rfl
theorem sc_are_ties : FnScope NN_are_ties P_are_ties (defScope s_are_ties) := C8.fnScope_by (by decide +kernel)
theorem len_are_ties (c : Cs) (ds : List D) (M : Mp) (Q : DQ) (h : S_are_ties c ds M Q) : ds.length = P_are_ties.length := by
  unfold S_are_ties at h
  repeat' (first | (obtain ⟨rfl, _⟩ := h; rfl; done) | (refine Or.elim h (fun h => ?_) (fun h => ?_)) | (obtain ⟨_, h⟩ := h))
theorem ok_are_ties {P : Program} {w : World} {K : PySem.W.Frag} {mg : Str → Option Value} {base : Heap} {f : Addr} {fd : FuncData} {c : Cs} {kws : List (Str × V)} (L : Lw P w K mg base c) (F : FunD K "are_ties" "are_ties" (defArgs s_are_ties) (defBody s_are_ties) (defScope s_are_ties) [] kws f fd) (h0 : Pr P w K mg base 1 "are_rising" 1 [] (S_are_rising c)) (h1 : Pr P w K mg base 2 "are_whole" 3 [] (S_are_whole c)) (h2 : Pr P w K mg base 1 "is_name" 1 [] (S_is_name c)) : FnOk P w K mg base CX0 3 f fd P_are_ties (spD K (S_are_ties c)) := by
  refine fn_okP (k := 2) F sc_are_ties (ir_are_ties c) (len_are_ties c) (mt_are_ties c) (fun A hr => ?_) (use_are_ties c)
  have qh0 := h0 A (hr.mono (by decide))
  have qh1 := h1 A (hr.mono (by decide))
  have qh2 := h2 A (hr.mono (by decide))
  simp only [ir_are_ties, Ss.ok, S.ok, E.ok, Es.ok, Oe.ok, Wk.ok, Es.len, Blt.nm, Blt.isRepr, Bool.false_eq_true, false_implies, and_true, true_and, Nat.zero_add, Nat.reduceAdd, List.length_cons, List.length_nil]
  repeat' (first | exact trivial | rfl | exact qh0 | exact qh1 | exact qh2 | exact L.b_len | exact isaB_ok L.b_isinstance L.b_tuple (by decide) | exact L.cP | exact L.cw | apply And.intro)
abbrev P_Net_init : List Str := ["self", "knots", "links", "labels"]
abbrev NN_Net_init : List Str := ["self", "knots", "links", "labels"]
theorem mt_Net_init (c : Cs) : (ir_Net_init c).mt ⟨NN_Net_init, defScope s_Net_init, fun _ => true⟩ (defBody s_Net_init) = true := by kernel_rfl
theorem sc_Net_init : FnScope NN_Net_init P_Net_init (defScope s_Net_init) := C8.fnScope_by (by decide +kernel)
theorem len_Net_init (c : Cs) (ds : List D) (M : Mp) (Q : DQ) (h : S_Net_init c ds M Q) : ds.length = P_Net_init.length := by
  unfold S_Net_init at h
  repeat' (first | (obtain ⟨rfl, _⟩ := h; rfl; done) | (refine Or.elim h (fun h => ?_) (fun h => ?_)) | (obtain ⟨_, h⟩ := h))
theorem ok_Net_init {P : Program} {w : World} {K : PySem.W.Frag} {mg : Str → Option Value} {base : Heap} {f : Addr} {fd : FuncData} {c : Cs} {kws : List (Str × V)} (L : Lw P w K mg base c) (F : FunD K "__init__" "Net.__init__" (defArgs s_Net_init) (defBody s_Net_init) (defScope s_Net_init) [] kws f fd) (h0 : Pr P w K mg base 3 "are_ties" 4 [] (S_are_ties c)) (h1 : Pr P w K mg base 1 "is_whole" 3 [] (S_is_whole c)) : FnOk P w K mg base CX0 4 f fd P_Net_init (spD K (S_Net_init c)) := by
  refine fn_okP (k := 3) F sc_Net_init (ir_Net_init c) (len_Net_init c) (mt_Net_init c) (fun A hr => ?_) (use_Net_init c)
  have qh0 := h0 A (hr.mono (by decide))
  have qh1 := h1 A (hr.mono (by decide))
  simp only [ir_Net_init, Ss.ok, S.ok, E.ok, Es.ok, Oe.ok, Wk.ok, Es.len, Blt.nm, Blt.isRepr, Bool.false_eq_true, false_implies, and_true, true_and, Nat.zero_add, Nat.reduceAdd, List.length_cons, List.length_nil]
  repeat' (first | exact trivial | rfl | exact qh0 | exact qh1 | exact L.g_MOST_KNOTS | exact L.g_MOST_LABELS | exact L.g_MOST_LINKS | exact L.f_Net_knots | exact L.f_Net_labels | exact L.f_Net_links | exact L.cP | exact L.cw | apply And.intro)
abbrev P_l_woven : List Str := ["_law_mesh_here"]
abbrev NN_l_woven : List Str := ["_law_mesh_here"]
theorem mt_l_woven (c : Cs) : (ir_l_woven c).mt ⟨NN_l_woven, defScope s_l_woven, fun _ => true⟩ (defBody s_l_woven) = true := by kernel_rfl
theorem sc_l_woven : FnScope NN_l_woven P_l_woven (defScope s_l_woven) := C8.fnScope_by (by decide +kernel)
theorem len_l_woven (c : Cs) (ds : List D) (M : Mp) (Q : DQ) (h : S_l_woven c ds M Q) : ds.length = P_l_woven.length := by
  unfold S_l_woven at h
  repeat' (first | (obtain ⟨rfl, _⟩ := h; rfl; done) | (refine Or.elim h (fun h => ?_) (fun h => ?_)) | (obtain ⟨_, h⟩ := h))
theorem ok_l_woven {P : Program} {w : World} {K : PySem.W.Frag} {mg : Str → Option Value} {base : Heap} {f : Addr} {fd : FuncData} {c : Cs} {kws : List (Str × V)} (L : Lw P w K mg base c) (F : FunD K "_law_woven" "_law_woven" (defArgs s_l_woven) (defBody s_l_woven) (defScope s_l_woven) [] kws f fd) (h0 : Pr P w K mg base 5 "Net" 1 ["links", "labels"] (S_Net_K1_links_labels c)) : FnOk P w K mg base CX0 6 f fd P_l_woven (spD K (S_l_woven c)) := by
  refine fn_okP (k := 5) F sc_l_woven (ir_l_woven c) (len_l_woven c) (mt_l_woven c) (fun A hr => ?_) (use_l_woven c)
  have qh0 := h0 A (hr.mono (by decide))
  simp only [ir_l_woven, Ss.ok, S.ok, E.ok, Es.ok, Oe.ok, Wk.ok, Es.len, Blt.nm, Blt.isRepr, Bool.false_eq_true, false_implies, and_true, true_and, Nat.zero_add, Nat.reduceAdd, List.length_cons, List.length_nil]
  repeat' (first | exact trivial | rfl | exact qh0 | exact L.cP | exact L.cw | apply And.intro)
abbrev P_is_net_of : List Str := ["house", "thing"]
abbrev NN_is_net_of : List Str := ["house", "thing", "rules", "lists", "label", "name", "pairs", "marks", "link"]
theorem mt_is_net_of (c : Cs) : (ir_is_net_of c).mt ⟨NN_is_net_of, defScope s_is_net_of, fun _ => true⟩ (defBody s_is_net_of) = true := by kernel_rfl
theorem sc_is_net_of : FnScope NN_is_net_of P_is_net_of (defScope s_is_net_of) := C8.fnScope_by (by decide +kernel)
theorem len_is_net_of (c : Cs) (ds : List D) (M : Mp) (Q : DQ) (h : S_is_net_of c ds M Q) : ds.length = P_is_net_of.length := by
  unfold S_is_net_of at h
  repeat' (first | (obtain ⟨rfl, _⟩ := h; rfl; done) | (refine Or.elim h (fun h => ?_) (fun h => ?_)) | (obtain ⟨_, h⟩ := h))
theorem ok_is_net_of {P : Program} {w : World} {K : PySem.W.Frag} {mg : Str → Option Value} {base : Heap} {f : Addr} {fd : FuncData} {c : Cs} {kws : List (Str × V)} (L : Lw P w K mg base c) (F : FunD K "is_net_of" "is_net_of" (defArgs s_is_net_of) (defBody s_is_net_of) (defScope s_is_net_of) [] kws f fd)  : FnOk P w K mg base CX0 1 f fd P_is_net_of (spD K (S_is_net_of c)) := by
  refine fn_okP (k := 0) F sc_is_net_of (ir_is_net_of c) (len_is_net_of c) (mt_is_net_of c) (fun A hr => ?_) (use_is_net_of c)
  simp only [ir_is_net_of, Ss.ok, S.ok, E.ok, Es.ok, Oe.ok, Wk.ok, Es.len, Blt.nm, Blt.isRepr, Bool.false_eq_true, false_implies, and_true, true_and, Nat.zero_add, Nat.reduceAdd, List.length_cons, List.length_nil]
  repeat' (first | exact trivial | rfl | exact L.b_all | exact L.f_House_lists | exact L.f_House_rules | exact L.f_Net_labels | exact L.f_Net_links | exact isaO_ok L.b_isinstance L.m_Net L.c_Net | exact isaW_ok L.b_isinstance L.m_Net L.c_Net L.c_House L.u_Net_House | exact L.cP | exact L.cw | apply And.intro)
abbrev P_Net_eq : List Str := ["self", "other"]
abbrev NN_Net_eq : List Str := ["self", "other"]
theorem mt_Net_eq (c : Cs) : (ir_Net_eq c).mt ⟨NN_Net_eq, defScope s_Net_eq, fun _ => true⟩ (defBody s_Net_eq) = true := by kernel_rfl
theorem sc_Net_eq : FnScope NN_Net_eq P_Net_eq (defScope s_Net_eq) := C8.fnScope_by (by decide +kernel)
theorem len_Net_eq (c : Cs) (ds : List D) (M : Mp) (Q : DQ) (h : S_Net_eq c ds M Q) : ds.length = P_Net_eq.length := by
  unfold S_Net_eq at h
  repeat' (first | (obtain ⟨rfl, _⟩ := h; rfl; done) | (refine Or.elim h (fun h => ?_) (fun h => ?_)) | (obtain ⟨_, h⟩ := h))
theorem ok_Net_eq {P : Program} {w : World} {K : PySem.W.Frag} {mg : Str → Option Value} {base : Heap} {f : Addr} {fd : FuncData} {c : Cs} {kws : List (Str × V)} (L : Lw P w K mg base c) (F : FunD K "__eq__" "Net.__eq__" (defArgs s_Net_eq) (defBody s_Net_eq) (defScope s_Net_eq) [] kws f fd)  : FnOk P w K mg base CX0 1 f fd P_Net_eq (spD K (S_Net_eq c)) := by
  refine fn_okP (k := 0) F sc_Net_eq (ir_Net_eq c) (len_Net_eq c) (mt_Net_eq c) (fun A hr => ?_) (use_Net_eq c)
  simp only [ir_Net_eq, Ss.ok, S.ok, E.ok, Es.ok, Oe.ok, Wk.ok, Es.len, Blt.nm, Blt.isRepr, Bool.false_eq_true, false_implies, and_true, true_and, Nat.zero_add, Nat.reduceAdd, List.length_cons, List.length_nil]
  repeat' (first | exact trivial | rfl | exact L.f_Net_knots | exact L.f_Net_labels | exact L.f_Net_links | exact isaO_ok L.b_isinstance L.m_Net L.c_Net | exact isaW_ok L.b_isinstance L.m_Net L.c_Net L.c_House L.u_Net_House | exact L.cP | exact L.cw | apply And.intro)
abbrev P_law : List Str := ["_law_script"]
abbrev NN_law : List Str := ["_law_script", "_law_k", "_law_pot_here", "_law_homes", "_law_meshes", "_law_home_here", "_law_mesh_here", "_law_other", "_law_thing", "_law_house", "_law_net", "_law_told"]
theorem mt_law (c : Cs) : (ir_law c).mt ⟨NN_law, defScope s_law, fun _ => true⟩ (defBody s_law) = true := by kernel_rfl
theorem sc_law : FnScope NN_law P_law (defScope s_law) := C8.fnScope_by (by decide +kernel)
theorem len_law (c : Cs) (ds : List D) (M : Mp) (Q : DQ) (h : S_law c ds M Q) : ds.length = P_law.length := by
  unfold S_law at h
  repeat' (first | (obtain ⟨rfl, _⟩ := h; rfl; done) | (refine Or.elim h (fun h => ?_) (fun h => ?_)) | (obtain ⟨_, h⟩ := h))
theorem ok_law {P : Program} {w : World} {K : PySem.W.Frag} {mg : Str → Option Value} {base : Heap} {f : Addr} {fd : FuncData} {c : Cs} {kws : List (Str × V)} (L : Lw P w K mg base c) (F : FunD K "law" "law" (defArgs s_law) (defBody s_law) (defScope s_law) [] kws f fd) (h0 : Pr P w K mg base 7 "_law_built" 1 [] (S_l_built c)) (h1 : Pr P w K mg base 1 "_law_due" 2 [] (S_l_due c)) (h2 : Pr P w K mg base 4 "_law_home" 2 [] (S_l_home c)) (h3 : Pr P w K mg base 3 "_law_mesh" 4 [] (S_l_mesh c)) (h4 : Pr P w K mg base 3 "_law_others" 3 [] (S_l_others c)) (h5 : Pr P w K mg base 1 "_law_pot" 2 [] (S_l_pot c)) (h6 : Pr P w K mg base 6 "_law_woven" 1 [] (S_l_woven c)) (h7 : Pr P w K mg base 1 "is_net_of" 2 [] (S_is_net_of c)) (h8 : PrO P w K mg base 2 c.Net "__eq__" (S_Net_eq c)) : FnG P w K mg base 8 f fd P_law (S_law c) := by
  refine fn_G (k := 7) F sc_law (ir_law c) (len_law c) (mt_law c) (fun A hr hg => ?_) (use_law c)
  have qh0 := h0 A (hr.mono (by decide))
  have qh1 := h1 A (hr.mono (by decide))
  have qh2 := h2 A (hr.mono (by decide))
  have qh3 := h3 A (hr.mono (by decide))
  have qh4 := h4 A (hr.mono (by decide))
  have qh5 := h5 A (hr.mono (by decide))
  have qh6 := h6 A (hr.mono (by decide))
  have qh7 := h7 A (hr.mono (by decide))
  have qh8 := h8 A (hr.mono (by decide))
  simp only [ir_law, Ss.ok, S.ok, E.ok, Es.ok, Oe.ok, Wk.ok, Es.len, Blt.nm, Blt.isRepr, Bool.false_eq_true, false_implies, and_true, true_and, Nat.zero_add, Nat.reduceAdd, List.length_cons, List.length_nil]
  repeat' (first | exact trivial | rfl | exact qh0 | exact qh1 | exact qh2 | exact qh3 | exact qh4 | exact qh5 | exact qh6 | exact qh7 | exact qh8 | exact L.b_any | exact L.b_len | exact L.b_max | exact L.b_min | exact L.b_repr | exact L.b_range | exact L.b_zip | exact L.u_Net_House.ne | exact nfB_ok L.c_Net L.c_House L.u_Net_House | exact nfB_ok L.c_Net L.c_House L.u_Net_House | exact fun _ => L.n_Net _ | exact L.n_Net _ | exact L.cP | exact L.cw | exact fun _ => hg | exact hg | apply And.intro)
theorem ob_eq (s : PySem.W.SharedT) : ob s = hk.obs s.abs := He.obsX_eq (HandSHeadRun.getT_eq s)
theorem facts {P : Program} {w : World} {K : PySem.W.Frag} {h : Heap} {mg : Str → Option Value} {f : Addr} (X : K.In h) (G : h.Ns mainGlobals mg) (hfa : mg ("law" : Str) = some (.ref f)) (cc : He.SaysX fa fn [] [] ex w h K) :
    ∃ fd : FuncData, noLst K = true ∧ (∀ (s : Shared) (v : Value), BindsTo s fd ⟨[v], []⟩ [("_law_script", v)]) ∧ ∀ base : Heap, K.In base → base.Ns mainGlobals mg → base.NoDigits → FnG P w K mg base 8 f fd ["_law_script"] (S_law ⟨He.ga K "House", He.ga K "Net", He.ga K "Striking", He.ga K "Growing", He.ga K "Yard", He.ga K "Desk", He.ga K, P, w⟩) := by
  have sd := cc.t.d
  have exs : ∀ b ∈ [noLst K, clsB K (He.ga K "House"), clsB K (He.ga K "Net"), neB K (He.ga K "Net"), unB K (He.ga K "Net") (He.ga K "House")], b = true := fun b hb => List.all_eq_true.mp cc.more b hb
  have x_0 : noLst K = true := exs _ (.head _)
  have x_1 : clsB K (He.ga K "House") = true := exs _ (.tail _ (.head _))
  have x_2 : clsB K (He.ga K "Net") = true := exs _ (.tail _ (.tail _ (.head _)))
  have x_3 : neB K (He.ga K "Net") = true := exs _ (.tail _ (.tail _ (.tail _ (.head _))))
  have x_4 : unB K (He.ga K "Net") (He.ga K "House") = true := exs _ (.tail _ (.tail _ (.tail _ (.tail _ (.head _)))))
  obtain ⟨fd_are_rising, F_are_rising⟩ := sd.def_ 0 (d := d_are_rising) rfl
  obtain ⟨fd_is_name, F_is_name⟩ := sd.def_ 1 (d := d_is_name) rfl
  obtain ⟨fd_are_called, F_are_called⟩ := sd.def_ 2 (d := d_are_called) rfl
  obtain ⟨fd_is_whole, F_is_whole⟩ := sd.def_ 3 (d := d_is_whole) rfl
  obtain ⟨fd_are_whole, F_are_whole⟩ := sd.def_ 4 (d := d_are_whole) rfl
  obtain ⟨fd_are_lists, F_are_lists⟩ := sd.def_ 5 (d := d_are_lists) rfl
  obtain ⟨fd_are_pairs, F_are_pairs⟩ := sd.def_ 6 (d := d_are_pairs) rfl
  obtain ⟨fd_are_rules, F_are_rules⟩ := sd.def_ 7 (d := d_are_rules) rfl
  obtain ⟨fd_House_init, F_House_init⟩ := sd.def_ 8 (d := d_House_init) rfl
  obtain ⟨fd_l_built, F_l_built⟩ := sd.def_ 9 (d := d_l_built) rfl
  obtain ⟨fd_l_due, F_l_due⟩ := sd.def_ 10 (d := d_l_due) rfl
  obtain ⟨fd_l_take, F_l_take⟩ := sd.def_ 11 (d := d_l_take) rfl
  obtain ⟨fd_l_of, F_l_of⟩ := sd.def_ 12 (d := d_l_of) rfl
  obtain ⟨fd_l_names, F_l_names⟩ := sd.def_ 13 (d := d_l_names) rfl
  obtain ⟨fd_l_all_pairs, F_l_all_pairs⟩ := sd.def_ 14 (d := d_l_all_pairs) rfl
  obtain ⟨fd_l_pairs, F_l_pairs⟩ := sd.def_ 15 (d := d_l_pairs) rfl
  obtain ⟨fd_l_home, F_l_home⟩ := sd.def_ 16 (d := d_l_home) rfl
  obtain ⟨fd_l_mesh, F_l_mesh⟩ := sd.def_ 17 (d := d_l_mesh) rfl
  obtain ⟨fd_l_others, F_l_others⟩ := sd.def_ 18 (d := d_l_others) rfl
  obtain ⟨fd_l_pot, F_l_pot⟩ := sd.def_ 19 (d := d_l_pot) rfl
  obtain ⟨fd_are_ties, F_are_ties⟩ := sd.def_ 20 (d := d_are_ties) rfl
  obtain ⟨fd_Net_init, F_Net_init⟩ := sd.def_ 21 (d := d_Net_init) rfl
  obtain ⟨fd_l_woven, F_l_woven⟩ := sd.def_ 22 (d := d_l_woven) rfl
  obtain ⟨fd_is_net_of, F_is_net_of⟩ := sd.def_ 23 (d := d_is_net_of) rfl
  obtain ⟨fd_Net_eq, F_Net_eq⟩ := sd.def_ 24 (d := d_Net_eq) rfl
  obtain ⟨fd_law, F_law⟩ := sd.def_ 25 (d := d_law) rfl
  have m_are_rising := He.glo_ok X G (sd.fact 0 (f := .glo "are_rising") rfl)
  have m_is_name := He.glo_ok X G (sd.fact 1 (f := .glo "is_name") rfl)
  have m_are_called := He.glo_ok X G (sd.fact 2 (f := .glo "are_called") rfl)
  have m_is_whole := He.glo_ok X G (sd.fact 3 (f := .glo "is_whole") rfl)
  have m_are_whole := He.glo_ok X G (sd.fact 4 (f := .glo "are_whole") rfl)
  have m_are_lists := He.glo_ok X G (sd.fact 5 (f := .glo "are_lists") rfl)
  have m_are_pairs := He.glo_ok X G (sd.fact 6 (f := .glo "are_pairs") rfl)
  have m_are_rules := He.glo_ok X G (sd.fact 7 (f := .glo "are_rules") rfl)
  have m_l_built := He.glo_ok X G (sd.fact 8 (f := .glo "_law_built") rfl)
  have m_l_due := He.glo_ok X G (sd.fact 9 (f := .glo "_law_due") rfl)
  have m_l_take := He.glo_ok X G (sd.fact 10 (f := .glo "_law_take") rfl)
  have m_l_of := He.glo_ok X G (sd.fact 11 (f := .glo "_law_of") rfl)
  have m_l_names := He.glo_ok X G (sd.fact 12 (f := .glo "_law_names") rfl)
  have m_l_all_pairs := He.glo_ok X G (sd.fact 13 (f := .glo "_law_all_pairs") rfl)
  have m_l_pairs := He.glo_ok X G (sd.fact 14 (f := .glo "_law_pairs") rfl)
  have m_l_home := He.glo_ok X G (sd.fact 15 (f := .glo "_law_home") rfl)
  have m_l_mesh := He.glo_ok X G (sd.fact 16 (f := .glo "_law_mesh") rfl)
  have m_l_others := He.glo_ok X G (sd.fact 17 (f := .glo "_law_others") rfl)
  have m_l_pot := He.glo_ok X G (sd.fact 18 (f := .glo "_law_pot") rfl)
  have m_are_ties := He.glo_ok X G (sd.fact 19 (f := .glo "are_ties") rfl)
  have m_l_woven := He.glo_ok X G (sd.fact 20 (f := .glo "_law_woven") rfl)
  have m_is_net_of := He.glo_ok X G (sd.fact 21 (f := .glo "is_net_of") rfl)
  have m_law := He.glo_ok X G (sd.fact 22 (f := .glo "law") rfl)
  have e := hfa.symm.trans m_law
  cases e
  have bA := FunD.bindsA (ps := P_law) F_law fun _ _ _ _ _ _ us hl => match us, hl with | [_], _ => rfl
  refine ⟨fd_law, x_0, fun s v => bA s [v] rfl, fun base _ _ hnd => ?_⟩
  let c : Cs := ⟨He.ga K "House", He.ga K "Net", He.ga K "Striking", He.ga K "Growing", He.ga K "Yard", He.ga K "Desk", He.ga K, P, w⟩
  have L : Lw P w K mg base c := {
    cP := rfl, cw := rfl, nd := hnd
    b_abs := He.free_ok X G (sd.fact 23 (f := .free "abs") rfl)
    b_all := He.free_ok X G (sd.fact 24 (f := .free "all") rfl)
    b_any := He.free_ok X G (sd.fact 25 (f := .free "any") rfl)
    b_bool := He.free_ok X G (sd.fact 26 (f := .free "bool") rfl)
    b_int := He.free_ok X G (sd.fact 27 (f := .free "int") rfl)
    b_isinstance := He.free_ok X G (sd.fact 28 (f := .free "isinstance") rfl)
    b_len := He.free_ok X G (sd.fact 29 (f := .free "len") rfl)
    b_list := He.free_ok X G (sd.fact 30 (f := .free "list") rfl)
    b_max := He.free_ok X G (sd.fact 31 (f := .free "max") rfl)
    b_min := He.free_ok X G (sd.fact 32 (f := .free "min") rfl)
    b_range := He.free_ok X G (sd.fact 33 (f := .free "range") rfl)
    b_repr := He.free_ok X G (sd.fact 34 (f := .free "repr") rfl)
    b_set := He.free_ok X G (sd.fact 35 (f := .free "set") rfl)
    b_sorted := He.free_ok X G (sd.fact 36 (f := .free "sorted") rfl)
    b_str := He.free_ok X G (sd.fact 37 (f := .free "str") rfl)
    b_tuple := He.free_ok X G (sd.fact 38 (f := .free "tuple") rfl)
    b_zip := He.free_ok X G (sd.fact 39 (f := .free "zip") rfl)
    g_LETTERS := gld_str (He.str_ok X G (sd.fact 40 (f := .str "LETTERS" "abcdefghijklmnopqrstuvwxyz") rfl))
    g_MOST_KNOTS := gld_int (He.int_ok X G (sd.fact 41 (f := .int "MOST_KNOTS" 60) rfl))
    g_MOST_LABELS := gld_int (He.int_ok X G (sd.fact 42 (f := .int "MOST_LABELS" 400) rfl))
    g_MOST_LETTERS := gld_int (He.int_ok X G (sd.fact 43 (f := .int "MOST_LETTERS" 6) rfl))
    g_MOST_LINKS := gld_int (He.int_ok X G (sd.fact 44 (f := .int "MOST_LINKS" 700) rfl))
    g_MOST_LISTS := gld_int (He.int_ok X G (sd.fact 45 (f := .int "MOST_LISTS" 6) rfl))
    g_MOST_MARKS := gld_int (He.int_ok X G (sd.fact 46 (f := .int "MOST_MARKS" 4) rfl))
    g_MOST_RULES := gld_int (He.int_ok X G (sd.fact 47 (f := .int "MOST_RULES" 3) rfl))
    m_House := He.glo_ok X G (sd.fact 48 (f := .glo "House") rfl)
    c_House := clsB_ok (He.cls_ok (sd.fact 49 (f := .cls "House") rfl)) x_1
    m_Net := He.glo_ok X G (sd.fact 50 (f := .glo "Net") rfl)
    c_Net := clsB_ok (He.cls_ok (sd.fact 51 (f := .cls "Net") rfl)) x_2
    f_House_lists := ⟨He.cls_ok (sd.fact 49 (f := .cls "House") rfl), He.noat_ok (sd.fact 52 (f := .noat "House" "lists") rfl)⟩
    f_House_many := ⟨He.cls_ok (sd.fact 49 (f := .cls "House") rfl), He.noat_ok (sd.fact 53 (f := .noat "House" "many") rfl)⟩
    f_House_marks_by := ⟨He.cls_ok (sd.fact 49 (f := .cls "House") rfl), He.noat_ok (sd.fact 54 (f := .noat "House" "marks_by") rfl)⟩
    f_House_pairs_by := ⟨He.cls_ok (sd.fact 49 (f := .cls "House") rfl), He.noat_ok (sd.fact 55 (f := .noat "House" "pairs_by") rfl)⟩
    f_House_rules := ⟨He.cls_ok (sd.fact 49 (f := .cls "House") rfl), He.noat_ok (sd.fact 56 (f := .noat "House" "rules") rfl)⟩
    f_Net_knots := ⟨He.cls_ok (sd.fact 51 (f := .cls "Net") rfl), He.noat_ok (sd.fact 57 (f := .noat "Net" "knots") rfl)⟩
    f_Net_labels := ⟨He.cls_ok (sd.fact 51 (f := .cls "Net") rfl), He.noat_ok (sd.fact 58 (f := .noat "Net" "labels") rfl)⟩
    f_Net_links := ⟨He.cls_ok (sd.fact 51 (f := .cls "Net") rfl), He.noat_ok (sd.fact 59 (f := .noat "Net" "links") rfl)⟩
    n_Net := fun A => neB_ok x_3
    u_Net_House := unB_ok x_4
  }
  have k_are_rising := ok_are_rising L F_are_rising 
  have b_are_rising : Binds K fd_are_rising P_are_rising [] := F_are_rising.bindsN fun _ _ _ _ _ _ us hl => match us, hl with | [_], _ => rfl
  have p_are_rising := fun n => Pr.fn k_are_rising m_are_rising F_are_rising.kp b_are_rising n
  have k_is_name := ok_is_name L F_is_name 
  have b_is_name : Binds K fd_is_name P_is_name [] := F_is_name.bindsN fun _ _ _ _ _ _ us hl => match us, hl with | [_], _ => rfl
  have p_is_name := fun n => Pr.fn k_is_name m_is_name F_is_name.kp b_is_name n
  have k_are_called := ok_are_called L F_are_called (p_are_rising 1) (p_is_name 1)
  have b_are_called : Binds K fd_are_called P_are_called [] := F_are_called.bindsN fun _ _ _ _ _ _ us hl => match us, hl with | [_, _], _ => rfl
  have p_are_called := fun n => Pr.fn k_are_called m_are_called F_are_called.kp b_are_called n
  have k_is_whole := ok_is_whole L F_is_whole 
  have b_is_whole : Binds K fd_is_whole P_is_whole [] := F_is_whole.bindsN fun _ _ _ _ _ _ us hl => match us, hl with | [_, _, _], _ => rfl
  have p_is_whole := fun n => Pr.fn k_is_whole m_is_whole F_is_whole.kp b_is_whole n
  have k_are_whole := ok_are_whole L F_are_whole (p_is_whole 3)
  have b_are_whole : Binds K fd_are_whole P_are_whole [] := F_are_whole.bindsN fun _ _ _ _ _ _ us hl => match us, hl with | [_, _, _], _ => rfl
  have p_are_whole := fun n => Pr.fn k_are_whole m_are_whole F_are_whole.kp b_are_whole n
  have k_are_lists := ok_are_lists L F_are_lists (p_are_called 2) (p_are_rising 1) (p_are_whole 3)
  have b_are_lists : Binds K fd_are_lists P_are_lists [] := F_are_lists.bindsN fun _ _ _ _ _ _ us hl => match us, hl with | [_, _], _ => rfl
  have p_are_lists := fun n => Pr.fn k_are_lists m_are_lists F_are_lists.kp b_are_lists n
  have k_are_pairs := ok_are_pairs L F_are_pairs (p_are_rising 1) (p_are_whole 3)
  have b_are_pairs : Binds K fd_are_pairs P_are_pairs [] := F_are_pairs.bindsN fun _ _ _ _ _ _ us hl => match us, hl with | [_, _, _], _ => rfl
  have p_are_pairs := fun n => Pr.fn k_are_pairs m_are_pairs F_are_pairs.kp b_are_pairs n
  have k_are_rules := ok_are_rules L F_are_rules (p_are_called 2) (p_are_pairs 3)
  have b_are_rules : Binds K fd_are_rules P_are_rules [] := F_are_rules.bindsN fun _ _ _ _ _ _ us hl => match us, hl with | [_, _], _ => rfl
  have p_are_rules := fun n => Pr.fn k_are_rules m_are_rules F_are_rules.kp b_are_rules n
  have k_House_init := ok_House_init L F_House_init (p_are_lists 2) (p_are_rules 2) (p_is_whole 3)
  have p_House_K1_rules_lists : Pr P w K mg base 6 "House" 1 ["rules", "lists"] (S_House_K1_rules_lists c) := Pr.make (He.mkr_ok (sd.fact 60 (f := .mkr "House") rfl)) k_House_init L.m_House (kbn_of F_House_init 2 ["rules", "lists"] fun _ _ _ _ _ _ us ws h1 h2 => match us, h1, ws, h2 with | [_, _], _, [_, _], _ => rfl)
  have k_l_built := ok_l_built L F_l_built p_House_K1_rules_lists
  have b_l_built : Binds K fd_l_built P_l_built [] := F_l_built.bindsN fun _ _ _ _ _ _ us hl => match us, hl with | [_], _ => rfl
  have p_l_built := fun n => Pr.fn k_l_built m_l_built F_l_built.kp b_l_built n
  have k_l_due := ok_l_due L F_l_due 
  have b_l_due : Binds K fd_l_due P_l_due [] := F_l_due.bindsN fun _ _ _ _ _ _ us hl => match us, hl with | [_, _], _ => rfl
  have p_l_due := fun n => Pr.fn k_l_due m_l_due F_l_due.kp b_l_due n
  have k_l_take := ok_l_take L F_l_take 
  have b_l_take : Binds K fd_l_take P_l_take [] := F_l_take.bindsN fun _ _ _ _ _ _ us hl => match us, hl with | [_, _], _ => rfl
  have p_l_take := fun n => Pr.fn k_l_take m_l_take F_l_take.kp b_l_take n
  have k_l_of := ok_l_of L F_l_of (p_l_take 2)
  have b_l_of : Binds K fd_l_of P_l_of [] := F_l_of.bindsN fun _ _ _ _ _ _ us hl => match us, hl with | [_, _], _ => rfl
  have p_l_of := fun n => Pr.fn k_l_of m_l_of F_l_of.kp b_l_of n
  have k_l_names := ok_l_names L F_l_names (p_l_of 2) (p_l_take 2)
  have b_l_names : Binds K fd_l_names P_l_names [] := F_l_names.bindsN fun _ _ _ _ _ _ us hl => match us, hl with | [_, _], _ => rfl
  have p_l_names := fun n => Pr.fn k_l_names m_l_names F_l_names.kp b_l_names n
  have k_l_all_pairs := ok_l_all_pairs L F_l_all_pairs 
  have b_l_all_pairs : Binds K fd_l_all_pairs P_l_all_pairs [] := F_l_all_pairs.bindsN fun _ _ _ _ _ _ us hl => match us, hl with | [_], _ => rfl
  have p_l_all_pairs := fun n => Pr.fn k_l_all_pairs m_l_all_pairs F_l_all_pairs.kp b_l_all_pairs n
  have k_l_pairs := ok_l_pairs L F_l_pairs (p_l_all_pairs 1) (p_l_take 2)
  have b_l_pairs : Binds K fd_l_pairs P_l_pairs [] := F_l_pairs.bindsN fun _ _ _ _ _ _ us hl => match us, hl with | [_, _], _ => rfl
  have p_l_pairs := fun n => Pr.fn k_l_pairs m_l_pairs F_l_pairs.kp b_l_pairs n
  have k_l_home := ok_l_home L F_l_home (p_l_names 2) (p_l_pairs 2) (p_l_take 2)
  have b_l_home : Binds K fd_l_home P_l_home [] := F_l_home.bindsN fun _ _ _ _ _ _ us hl => match us, hl with | [_, _], _ => rfl
  have p_l_home := fun n => Pr.fn k_l_home m_l_home F_l_home.kp b_l_home n
  have k_l_mesh := ok_l_mesh L F_l_mesh (p_l_of 2) (p_l_take 2)
  have b_l_mesh : Binds K fd_l_mesh P_l_mesh [] := F_l_mesh.bindsN fun _ _ _ _ _ _ us hl => match us, hl with | [_, _, _, _], _ => rfl
  have p_l_mesh := fun n => Pr.fn k_l_mesh m_l_mesh F_l_mesh.kp b_l_mesh n
  have k_l_others := ok_l_others L F_l_others (p_l_of 2) (p_l_take 2)
  have b_l_others : Binds K fd_l_others P_l_others [] := F_l_others.bindsN fun _ _ _ _ _ _ us hl => match us, hl with | [_, _, _], _ => rfl
  have p_l_others := fun n => Pr.fn k_l_others m_l_others F_l_others.kp b_l_others n
  have k_l_pot := ok_l_pot L F_l_pot 
  have b_l_pot : Binds K fd_l_pot P_l_pot [] := F_l_pot.bindsN fun _ _ _ _ _ _ us hl => match us, hl with | [_, _], _ => rfl
  have p_l_pot := fun n => Pr.fn k_l_pot m_l_pot F_l_pot.kp b_l_pot n
  have k_are_ties := ok_are_ties L F_are_ties (p_are_rising 1) (p_are_whole 3) (p_is_name 1)
  have b_are_ties : Binds K fd_are_ties P_are_ties [] := F_are_ties.bindsN fun _ _ _ _ _ _ us hl => match us, hl with | [_, _, _, _], _ => rfl
  have p_are_ties := fun n => Pr.fn k_are_ties m_are_ties F_are_ties.kp b_are_ties n
  have k_Net_init := ok_Net_init L F_Net_init (p_are_ties 4) (p_is_whole 3)
  have p_Net_K1_links_labels : Pr P w K mg base 5 "Net" 1 ["links", "labels"] (S_Net_K1_links_labels c) := Pr.make (He.mkr_ok (sd.fact 61 (f := .mkr "Net") rfl)) k_Net_init L.m_Net (kbn_of F_Net_init 2 ["links", "labels"] fun _ _ _ _ _ _ us ws h1 h2 => match us, h1, ws, h2 with | [_, _], _, [_, _], _ => rfl)
  have k_l_woven := ok_l_woven L F_l_woven p_Net_K1_links_labels
  have b_l_woven : Binds K fd_l_woven P_l_woven [] := F_l_woven.bindsN fun _ _ _ _ _ _ us hl => match us, hl with | [_], _ => rfl
  have p_l_woven := fun n => Pr.fn k_l_woven m_l_woven F_l_woven.kp b_l_woven n
  have k_is_net_of := ok_is_net_of L F_is_net_of 
  have b_is_net_of : Binds K fd_is_net_of P_is_net_of [] := F_is_net_of.bindsN fun _ _ _ _ _ _ us hl => match us, hl with | [_, _], _ => rfl
  have p_is_net_of := fun n => Pr.fn k_is_net_of m_is_net_of F_is_net_of.kp b_is_net_of n
  have k_Net_eq := ok_Net_eq L F_Net_eq 
  have b_Net_eq : Binds K fd_Net_eq P_Net_eq [] := F_Net_eq.bindsN fun _ _ _ _ _ _ us hl => match us, hl with | [_, _], _ => rfl
  have o_Net_eq := own_of k_Net_eq b_Net_eq (He.meth_ok (sd.fact 62 (f := .meth "Net" "__eq__") rfl))
  have k_law := ok_law L F_law (p_l_built 1) (p_l_due 2) (p_l_home 2) (p_l_mesh 4) (p_l_others 3) (p_l_pot 2) (p_l_woven 1) (p_is_net_of 2) o_Net_eq
  have b_law : Binds K fd_law P_law [] := F_law.bindsN fun _ _ _ _ _ _ us hl => match us, hl with | [_], _ => rfl
  have p_law := fun n => Pr.fnG k_law m_law F_law.kp b_law n
  exact k_law
end DL
open PySem PySem.W PySem.Calls PyProof.Rows
theorem PySem.Challenge.cw_setshouse_k04_whose_nets_they_are_holds : PySem.Challenge.rw_setshouse_k04_whose_nets_they_are.Holds := by
  w_on; o_law
  refine HandSHeadRun.head_any (r := OpenLaw.row PySem.Challenge.rw_setshouse_k04_whose_nets_they_are) (q := view (OpenLaw.row PySem.Challenge.rw_setshouse_k04_whose_nets_they_are).prog [41]) (H := DL.hk) (ob := DL.ob) (M := 20000) (loose := DL.lo) (d := HandSHeadRun.topDef (OpenLaw.row PySem.Challenge.rw_setshouse_k04_whose_nets_they_are).prog 41) (kwd := []) DL.ob_eq
    (by kernel_rfl) (fun s => by kernel_rfl) DL.run (by kernel_rfl) (by kernel_rfl) (by kernel_rfl) (by rfl) (by first | assumption | decide +kernel) (by decide +kernel) ⟨rfl, rfl, rfl, rfl, rfl, by decide +kernel⟩ ?hw ?hc
  case hw => w_witness2
  case hc =>
    refine DL.walk_ofG (l := PySem.Challenge.rw_setshouse_k04_whose_nets_they_are) (n := 63) (k := 8) (x := "_law_script") rfl (by decide) (by kernel_rfl) ⟨rfl, by decide, by decide⟩ ?F
    intro w mg fa h Y G hmg0
    obtain ⟨K, KX, c⟩ := Y
    have hmg : mg ("law" : PySem.Str) = some (.ref fa) := by
      have e : (HandSHeadRun.topDef (OpenLaw.row PySem.Challenge.rw_setshouse_k04_whose_nets_they_are).prog 41).name = ("law" : PySem.Str) := by kernel_rfl
      rw [← e]
      exact hmg0
    obtain ⟨fd, hnl, hb, hF⟩ := DL.facts (P := (PySem.Challenge.rw_setshouse_k04_whose_nets_they_are).prog) (w := w) KX G hmg c
    exact ⟨K, fd, _, KX, hnl, hb, fun a ns M hl hM => ⟨a, ns, rfl, hM, Nat.le_trans hl (by decide), fun _ _ => rfl⟩, hF⟩


