import PyProof.Rows.All
import Wide.All
import OpenK.AllK
import Wide.FinOn
import HandS.ForMost
import HandS.Flow
import HandS.Dict
import HandS.Deep
import HandS.TupAny
import HandS.TupMul
import HandS.TupLe
import HandS.Wide
import HandS.Style
import HandS.IsInst
import KE.SortData
import KE.DataCmp
import PyProof.ListStr
import HandS.Zip
import HandS.Zip0
import HandS.Defaults
import HandS.MakeKwOnly
import KE.KIntText
import PyProof.StrBlock2
import PyProof.Rows.Digits
import PyProof.ReprRoads
import HandS.OwnEq
import PyProof.InstEq
import HandS.DictComp
import HandS.Conv
import HandS.Small
import HandS.HeadEnd
import PyProof.FitsInt
import PyProof.StrLawsRepr
import HandS.Codes
import HandS.HeadHook4
import HandS.Head2
import HandS.Ends
import KE.KStateDown
import HandS.More
import HandS.WordsExc
import HandS.Head0
import HandS.Head1
import HandS.HeadHook1
import HandS.HeadHook2
import PySem.Challenge.RW_setshouse_k41_leadings_looked_at
set_option Elab.async false
set_option linter.all false
set_option maxRecDepth 100000
set_option maxHeartbeats 4000000
/-! DLa: data as trees (D), other objects by address (Mp); how they lie in the abstract heap. -/
namespace DL
open PySem PySem.Spec PyProof.Rows L2

inductive D where
  | non | bl (b : Bool) | int (i : Int) | str (x : Str) | ty (n : String) | ref (a : Addr) | tup (xs : List D)

/-- the two numbers of a pot -/
def potTop : Int := 10 ^ 900
def potMod : Int := 2305843009213693951
def PotOk (g m : Int) : Prop := 0 ≤ g ∧ g < potTop ∧ 0 ≤ m ∧ m < potMod

inductive MO where
  | lst (ds : List D)
  | dK (kvs : List (Key × D))
  | dT (kvs : List (List Key × D))
  | dX (P : Program) (w : World) (kvs : List (List Key × D))
  | ins (C : Addr) (fs : List (Str × D))
  | pot
  | scr (ns : List Int)

abbrev Mp := Addr → Option MO
def up (M : Mp) (a : Addr) (o : MO) : Mp := fun b => if b = a then some o else M b
theorem up_same {M : Mp} {a : Addr} {o : MO} : up M a o a = some o := by unfold up; rw [if_pos rfl]
theorem up_ne {M : Mp} {a b : Addr} {o : MO} (h : b ≠ a) : up M a o b = M b := by unfold up; rw [if_neg h]

variable (K : PySem.W.Frag)
mutual
def Rep (H : Hp) : D → V → Prop
  | .non, v => v = .non
  | .bl b, v => v = .bl b
  | .int i, v => v = .int i
  | .str x, v => v = .str x
  | .ty n, v => v = .ty n
  | .ref a, v => v = .ref a
  | .tup ds, v => ∃ a vs, v = .ref a ∧ SqT K H a vs ∧ Reps H ds vs
def Reps (H : Hp) : List D → List V → Prop
  | [], vs => vs = []
  | d :: ds, vs => ∃ v r, vs = v :: r ∧ Rep H d v ∧ Reps H ds r
end
def Pairs (H : Hp) {κ : Type} : List (κ × D) → List (κ × V) → Prop
  | [], vs => vs = []
  | (k, d) :: ds, vs => ∃ v r, vs = (k, v) :: r ∧ Rep K H d v ∧ Pairs H ds r

/-- a dict whose keys are tuples, as the object knows it: key, the tuple's place, value -/
def TD (P : Program) (w : World) (a : Addr) (xs : List (List Key × Addr × V)) : Heap → Prop := fun h => (a == sysModules) = false ∧ ∃ ys : List (List Key × Addr × Value),
  Paired (fun (p : List Key × Addr × V) (q : List Key × Addr × Value) => p.1 = q.1 ∧ p.2.1 = q.2.1 ∧ RelV p.2.2 q.2.2) xs ys ∧
  ∃ o es ep, h.get? a = some o ∧ o.ExactDict ∧ o.data = .dict es ep ∧ es.toList = ys.map (entryOfKey (tupleKind (mixKind P w))) ∧ (ys.map (·.1)).Nodup
def TPs (H : Hp) : List (List Key × D) → List (List Key × Addr × V) → Prop
  | [], xs => xs = []
  | (k, d) :: ds, xs => ∃ b v r, xs = (k, b, v) :: r ∧ SqT K H b (k.map kV) ∧ Rep K H d v ∧ TPs H ds r
def RepO (H : Hp) (a : Addr) : MO → Prop
  | .lst ds => ∃ vs, H a = some (.lst vs) ∧ Reps K H ds vs
  | .dK kvs => ∃ vs, H a = some (.dK vs) ∧ Pairs K H kvs vs
  | .dT kvs => ∃ vs, H a = some (.dT vs) ∧ Pairs K H kvs vs
  | .dX P w kvs => ∃ xs, H a = some (.ext (TD P w a xs)) ∧ TPs K H kvs xs
  | .ins C fs => ∃ dx vs, H a = some (.ins C dx vs) ∧ Pairs K H fs vs
  | .pot => ∃ g m, H a = some (.lst [.int g, .int m]) ∧ PotOk g m
  | .scr ns => ∃ o, H a = some (.frz o (.lst (ns.map V.int)))
def RepM (H : Hp) (M : Mp) : Prop := ∀ a o, M a = some o → RepO K H a o
/-- all tuples are as they were -/
def TupS (H H' : Hp) : Prop := ∀ a xs, SqT K H a xs → SqT K H' a xs
variable {K}
theorem TupS.refl (H : Hp) : TupS K H H := fun _ _ h => h
theorem TupS.trans {H H1 H2 : Hp} (a : TupS K H H1) (b : TupS K H1 H2) : TupS K H H2 := fun c o h => b c o (a c o h)
/-- a heap changed at one place that holds no tuple -/
theorem TupS.at_ {H : Hp} {a : Addr} {o : HO} (h : ∀ xs, ¬ Rd H a (.tup xs)) : TupS K H (upd H a o) := fun b xs q => by
  rcases q with (q | ⟨z, q⟩) | q
  · refine .inl (.inl ?_)
    rw [upd_ne]; exact q
    intro e; subst e; exact h xs (.inl q)
  · refine .inl (.inr ⟨z, ?_⟩)
    rw [upd_ne]; exact q
    intro e; subst e; exact h xs (.inr ⟨z, q⟩)
  · exact .inr q
theorem TupS.new {H : Hp} {a : Addr} {o : HO} (h : H a = none) : TupS K H (upd H a o) := .at_ fun xs q => by
  rcases q with q | ⟨z, q⟩ <;> (rw [h] at q; cases q)
theorem TupS.lst {H : Hp} {a : Addr} {o : HO} {ys : List V} (h : H a = some (.lst ys)) : TupS K H (upd H a o) := .at_ fun xs q => by
  rcases q with q | ⟨z, q⟩ <;> (rw [h] at q; cases q)
theorem TupS.dK {H : Hp} {a : Addr} {o : HO} {ys} (h : H a = some (.dK ys)) : TupS K H (upd H a o) := .at_ fun xs q => by
  rcases q with q | ⟨z, q⟩ <;> (rw [h] at q; cases q)
theorem TupS.dT {H : Hp} {a : Addr} {o : HO} {ys} (h : H a = some (.dT ys)) : TupS K H (upd H a o) := .at_ fun xs q => by
  rcases q with q | ⟨z, q⟩ <;> (rw [h] at q; cases q)
theorem TupS.ins {H : Hp} {a : Addr} {o : HO} {C dx fs} (h : H a = some (.ins C dx fs)) : TupS K H (upd H a o) := .at_ fun xs q => by
  rcases q with q | ⟨z, q⟩ <;> (rw [h] at q; cases q)
mutual
theorem Rep.stay {H H' : Hp} (t : TupS K H H') : ∀ {d : D} {v : V}, Rep K H d v → Rep K H' d v
  | .non, _, h => h
  | .bl _, _, h => h
  | .int _, _, h => h
  | .str _, _, h => h
  | .ty _, _, h => h
  | .ref _, _, h => h
  | .tup ds, _, h => by
    unfold Rep at h ⊢
    obtain ⟨a, vs, e, s, r⟩ := h
    exact ⟨a, vs, e, t _ _ s, Reps.stay t r⟩
theorem Reps.stay {H H' : Hp} (t : TupS K H H') : ∀ {ds : List D} {vs : List V}, Reps K H ds vs → Reps K H' ds vs
  | [], _, h => h
  | d :: ds, _, h => by
    unfold Reps at h ⊢
    obtain ⟨v, r, e, h1, h2⟩ := h
    exact ⟨v, r, e, Rep.stay t h1, Reps.stay t h2⟩
end
theorem Pairs.stay {H H' : Hp} {κ : Type} (t : TupS K H H') : ∀ {ds : List (κ × D)} {vs : List (κ × V)}, Pairs K H ds vs → Pairs K H' ds vs
  | [], _, h => h
  | (k, d) :: ds, _, h => by
    unfold Pairs at h ⊢
    obtain ⟨v, r, e, h1, h2⟩ := h
    exact ⟨v, r, e, Rep.stay t h1, Pairs.stay t h2⟩
theorem Reps.length {H : Hp} : ∀ {ds : List D} {vs : List V}, Reps K H ds vs → ds.length = vs.length
  | [], _, h => by unfold Reps at h; subst h; rfl
  | d :: ds, _, h => by
    unfold Reps at h
    obtain ⟨v, r, rfl, _, h2⟩ := h
    rw [List.length_cons, List.length_cons, h2.length]
theorem Reps.append {H : Hp} : ∀ {ds es : List D} {vs us : List V}, Reps K H ds vs → Reps K H es us → Reps K H (ds ++ es) (vs ++ us)
  | [], _, _, _, h, h' => by unfold Reps at h; subst h; exact h'
  | d :: ds, _, _, _, h, h' => by
    unfold Reps at h
    obtain ⟨v, r, rfl, h1, h2⟩ := h
    rw [List.cons_append, List.cons_append]
    unfold Reps
    exact ⟨v, _, rfl, h1, h2.append h'⟩
theorem Reps.get {H : Hp} : ∀ {ds : List D} {vs : List V} {i : Nat} {d : D}, Reps K H ds vs → ds[i]? = some d → ∃ v, vs[i]? = some v ∧ Rep K H d v
  | [], _, _, _, _, e => by simp at e
  | d :: ds, _, 0, _, h, e => by
    unfold Reps at h
    obtain ⟨v, r, rfl, h1, h2⟩ := h
    simp at e; subst e
    exact ⟨v, rfl, h1⟩
  | d :: ds, _, i + 1, _, h, e => by
    unfold Reps at h
    obtain ⟨v, r, rfl, h1, h2⟩ := h
    obtain ⟨u, e1, e2⟩ := h2.get (i := i) (by simpa using e)
    exact ⟨u, by simpa using e1, e2⟩
theorem Reps.get' {H : Hp} : ∀ {ds : List D} {vs : List V} {i : Nat} {v : V}, Reps K H ds vs → vs[i]? = some v → ∃ d, ds[i]? = some d ∧ Rep K H d v
  | [], _, _, _, h, e => by unfold Reps at h; subst h; simp at e
  | d :: ds, _, 0, _, h, e => by
    unfold Reps at h
    obtain ⟨v, r, rfl, h1, h2⟩ := h
    simp at e; subst e
    exact ⟨d, rfl, h1⟩
  | d :: ds, _, i + 1, _, h, e => by
    unfold Reps at h
    obtain ⟨v, r, rfl, h1, h2⟩ := h
    obtain ⟨u, e1, e2⟩ := h2.get' (i := i) (by simpa using e)
    exact ⟨u, by simpa using e1, e2⟩
theorem Reps.take {H : Hp} : ∀ {ds : List D} {vs : List V} (n : Nat), Reps K H ds vs → Reps K H (ds.take n) (vs.take n)
  | _, _, 0, _ => by unfold Reps; simp
  | [], _, _ + 1, h => by unfold Reps at h; subst h; unfold Reps; simp
  | d :: ds, _, n + 1, h => by
    unfold Reps at h
    obtain ⟨v, r, rfl, h1, h2⟩ := h
    rw [List.take_succ_cons, List.take_succ_cons]
    unfold Reps
    exact ⟨v, _, rfl, h1, h2.take n⟩
theorem Reps.drop {H : Hp} : ∀ {ds : List D} {vs : List V} (n : Nat), Reps K H ds vs → Reps K H (ds.drop n) (vs.drop n)
  | _, _, 0, h => by simpa using h
  | [], _, _ + 1, h => by unfold Reps at h; subst h; unfold Reps; simp
  | d :: ds, _, n + 1, h => by
    unfold Reps at h
    obtain ⟨v, r, rfl, h1, h2⟩ := h
    rw [List.drop_succ_cons, List.drop_succ_cons]
    exact h2.drop n
theorem Reps.set {H : Hp} {d : D} {v : V} (q : Rep K H d v) : ∀ {ds : List D} {vs : List V} (n : Nat), Reps K H ds vs → Reps K H (ds.set n d) (vs.set n v)
  | [], _, _, h => by unfold Reps at h; subst h; unfold Reps; simp
  | e :: ds, _, 0, h => by
    unfold Reps at h
    obtain ⟨u, r, rfl, h1, h2⟩ := h
    rw [List.set_cons_zero, List.set_cons_zero]
    unfold Reps
    exact ⟨v, _, rfl, q, h2⟩
  | e :: ds, _, n + 1, h => by
    unfold Reps at h
    obtain ⟨u, r, rfl, h1, h2⟩ := h
    rw [List.set_cons_succ, List.set_cons_succ]
    unfold Reps
    exact ⟨u, _, rfl, h1, h2.set q n⟩
theorem Reps.nil {H : Hp} : Reps K H [] [] := by unfold Reps; rfl
theorem Reps.cons {H : Hp} {d : D} {v : V} {ds : List D} {vs : List V} (h1 : Rep K H d v) (h2 : Reps K H ds vs) : Reps K H (d :: ds) (v :: vs) := by unfold Reps; exact ⟨v, vs, rfl, h1, h2⟩
theorem Reps.snoc {H : Hp} {d : D} {v : V} {ds : List D} {vs : List V} (h2 : Reps K H ds vs) (h1 : Rep K H d v) : Reps K H (ds ++ [d]) (vs ++ [v]) := h2.append (Reps.cons h1 .nil)
theorem Reps.ints {H : Hp} : ∀ ns : List Int, Reps K H (ns.map D.int) (ns.map V.int)
  | [] => .nil
  | n :: ns => .cons (by unfold Rep; rfl) (Reps.ints ns)
theorem Pairs.lookup {H : Hp} {κ : Type} [BEq κ] {k : κ} : ∀ {ds : List (κ × D)} {vs : List (κ × V)} {d : D}, Pairs K H ds vs → ds.lookup k = some d → ∃ v, vs.lookup k = some v ∧ Rep K H d v
  | [], _, _, _, e => by simp at e
  | (j, c) :: ds, _, _, h, e => by
    unfold Pairs at h
    obtain ⟨v, r, rfl, h1, h2⟩ := h
    rw [List.lookup_cons] at e ⊢
    cases hb : k == j with
    | true => rw [hb] at e; cases e; exact ⟨v, rfl, h1⟩
    | false => rw [hb] at e; exact h2.lookup e
theorem Pairs.lookup_none {H : Hp} {κ : Type} [BEq κ] {k : κ} : ∀ {ds : List (κ × D)} {vs : List (κ × V)}, Pairs K H ds vs → ds.lookup k = none → vs.lookup k = none
  | [], _, h, e => by unfold Pairs at h; subst h; rfl
  | (j, c) :: ds, _, h, e => by
    unfold Pairs at h
    obtain ⟨v, r, rfl, h1, h2⟩ := h
    rw [List.lookup_cons] at e ⊢
    cases hb : k == j with
    | true => rw [hb] at e; cases e
    | false => rw [hb] at e; exact h2.lookup_none e
theorem Pairs.keys {H : Hp} {κ : Type} : ∀ {ds : List (κ × D)} {vs : List (κ × V)}, Pairs K H ds vs → ds.map (·.1) = vs.map (·.1)
  | [], _, h => by unfold Pairs at h; subst h; rfl
  | (j, c) :: ds, _, h => by
    unfold Pairs at h
    obtain ⟨v, r, rfl, h1, h2⟩ := h
    rw [List.map_cons, List.map_cons, h2.keys]
theorem Pairs.length {H : Hp} {κ : Type} {ds : List (κ × D)} {vs : List (κ × V)} (h : Pairs K H ds vs) : ds.length = vs.length := by
  have e := congrArg List.length h.keys
  simpa using e
theorem TPs.stay {H H' : Hp} (t : TupS K H H') : ∀ {ds : List (List Key × D)} {xs : List (List Key × Addr × V)}, TPs K H ds xs → TPs K H' ds xs
  | [], _, h => h
  | (k, d) :: ds, _, h => by
    unfold TPs at h ⊢
    obtain ⟨b, v, r, e, h1, h2, h3⟩ := h
    exact ⟨b, v, r, e, t _ _ h1, h2.stay t, h3.stay t⟩
theorem TPs.keys {H : Hp} : ∀ {ds : List (List Key × D)} {xs : List (List Key × Addr × V)}, TPs K H ds xs → ds.map (·.1) = xs.map (·.1)
  | [], _, h => by unfold TPs at h; subst h; rfl
  | (k, d) :: ds, _, h => by
    unfold TPs at h
    obtain ⟨b, v, r, rfl, h1, h2, h3⟩ := h
    rw [List.map_cons, List.map_cons, h3.keys]
theorem TPs.sq {H : Hp} : ∀ {ds : List (List Key × D)} {xs : List (List Key × Addr × V)}, TPs K H ds xs → ∀ q ∈ xs, SqT K H q.2.1 (q.1.map kV)
  | [], _, h, q, hq => by unfold TPs at h; subst h; cases hq
  | (k, d) :: ds, _, h, q, hq => by
    unfold TPs at h
    obtain ⟨b, v, r, rfl, h1, h2, h3⟩ := h
    rcases List.mem_cons.mp hq with rfl | hq
    · exact h1
    · exact h3.sq q hq
theorem TPs.more {H : Hp} {k : List Key} {d : D} {b : Addr} {v : V} (hb : SqT K H b (k.map kV)) (hv : Rep K H d v) : ∀ {ds : List (List Key × D)} {xs : List (List Key × Addr × V)}, TPs K H ds xs → TPs K H (ds ++ [(k, d)]) (xs ++ [(k, b, v)])
  | [], _, h => by unfold TPs at h; subst h; exact ⟨b, v, [], rfl, hb, hv, rfl⟩
  | (j, c) :: ds, _, h => by
    unfold TPs at h
    obtain ⟨b', v', r, rfl, h1, h2, h3⟩ := h
    exact ⟨b', v', _, rfl, h1, h2, TPs.more hb hv h3⟩
/-- what an object is, elsewhere -/
theorem RepO.stay {H H' : Hp} {a : Addr} (t : TupS K H H') (e : H' a = H a) : ∀ {o : MO}, RepO K H a o → RepO K H' a o
  | .lst ds, h => by obtain ⟨vs, h1, h2⟩ := h; exact ⟨vs, e.trans h1, h2.stay t⟩
  | .dK ds, h => by obtain ⟨vs, h1, h2⟩ := h; exact ⟨vs, e.trans h1, h2.stay t⟩
  | .dT ds, h => by obtain ⟨vs, h1, h2⟩ := h; exact ⟨vs, e.trans h1, h2.stay t⟩
  | .dX P w ds, h => by obtain ⟨vs, h1, h2⟩ := h; exact ⟨vs, e.trans h1, h2.stay t⟩
  | .ins C fs, h => by obtain ⟨dx, vs, h1, h2⟩ := h; exact ⟨dx, vs, e.trans h1, h2.stay t⟩
  | .pot, h => by obtain ⟨g, m, h1, h2⟩ := h; exact ⟨g, m, e.trans h1, h2⟩
  | .scr ns, h => by obtain ⟨o, h1⟩ := h; exact ⟨o, e.trans h1⟩
theorem RepO.some {H : Hp} {a : Addr} : ∀ {o : MO}, RepO K H a o → ∃ u, H a = Option.some u
  | .lst ds, h => by obtain ⟨vs, h1, h2⟩ := h; exact ⟨_, h1⟩
  | .dK ds, h => by obtain ⟨vs, h1, h2⟩ := h; exact ⟨_, h1⟩
  | .dT ds, h => by obtain ⟨vs, h1, h2⟩ := h; exact ⟨_, h1⟩
  | .dX P w ds, h => by obtain ⟨vs, h1, h2⟩ := h; exact ⟨_, h1⟩
  | .ins C fs, h => by obtain ⟨dx, vs, h1, h2⟩ := h; exact ⟨_, h1⟩
  | .pot, h => by obtain ⟨g, m, h1, h2⟩ := h; exact ⟨_, h1⟩
  | .scr ns, h => by obtain ⟨o, h1⟩ := h; exact ⟨_, h1⟩
theorem RepO.notup {H : Hp} {a : Addr} {o : MO} (h : RepO K H a o) (xs : List V) : ¬ Rd H a (.tup xs) := fun q => by
  cases o with
  | lst ds => obtain ⟨vs, h1, h2⟩ := h; rcases q with q | ⟨z, q⟩ <;> (rw [h1] at q; cases q)
  | dK ds => obtain ⟨vs, h1, h2⟩ := h; rcases q with q | ⟨z, q⟩ <;> (rw [h1] at q; cases q)
  | dT ds => obtain ⟨vs, h1, h2⟩ := h; rcases q with q | ⟨z, q⟩ <;> (rw [h1] at q; cases q)
  | dX P w ds => obtain ⟨vs, h1, h2⟩ := h; rcases q with q | ⟨z, q⟩ <;> (rw [h1] at q; cases q)
  | ins C fs => obtain ⟨dx, vs, h1, h2⟩ := h; rcases q with q | ⟨z, q⟩ <;> (rw [h1] at q; cases q)
  | pot => obtain ⟨g, m, h1, h2⟩ := h; rcases q with q | ⟨z, q⟩ <;> (rw [h1] at q; cases q)
  | scr ns => obtain ⟨o, h1⟩ := h; rcases q with q | ⟨z, q⟩ <;> (rw [h1] at q; cases q)
theorem RepM.none {H : Hp} {M : Mp} (r : RepM K H M) {p : Addr} (h : H p = Option.none) : M p = Option.none := by
  cases q : M p with
  | none => rfl
  | some o => obtain ⟨u, e⟩ := (r p o q).some; rw [h] at e; cases e
/-- a new object, tracked -/
theorem RepM.new {H : Hp} {M : Mp} (r : RepM K H M) {p : Addr} {u : HO} {o : MO} (h : H p = Option.none) (ho : RepO K (upd H p u) p o) : RepM K (upd H p u) (up M p o) := fun a q e => by
  by_cases ha : a = p
  · subst ha; rw [up_same] at e; cases e; exact ho
  · rw [up_ne ha] at e
    exact (r a q e).stay (.new h) (upd_ne ha)
/-- a new object that isn't tracked (a tuple) -/
theorem RepM.more {H : Hp} {M : Mp} (r : RepM K H M) {p : Addr} {u : HO} (h : H p = Option.none) : RepM K (upd H p u) M := fun a q e => by
  have ha : a ≠ p := fun z => by subst z; rw [r.none h] at e; cases e
  exact (r a q e).stay (.new h) (upd_ne ha)
/-- an object changed -/
theorem RepM.put {H : Hp} {M : Mp} (r : RepM K H M) {p : Addr} {u : HO} {o o' : MO} (h : M p = Option.some o) (ho : RepO K (upd H p u) p o') : RepM K (upd H p u) (up M p o') := fun a q e => by
  by_cases ha : a = p
  · subst ha; rw [up_same] at e; cases e; exact ho
  · rw [up_ne ha] at e
    exact (r a q e).stay (.at_ (r p o h).notup) (upd_ne ha)
end DL

set_option Elab.async false
set_option linter.all false
set_option maxRecDepth 100000
set_option maxHeartbeats 4000000
/-! DLb: readings over data. -/
namespace DL
open PySem L2

abbrev Ro := List (Option D)
abbrev DQ := D → Mp → Prop
abbrev WE := Ro → Mp → DQ → Prop
abbrev WT := Ro → Mp → (Bool → Mp → Prop) → Prop
abbrev WA := Ro → Mp → (List D → Mp → Prop) → Prop
abbrev Spec := List D → Mp → DQ → Prop

variable {K : PySem.W.Frag}
def RepS (K : PySem.W.Frag) (H : Hp) (σ : St) (ρ : Ro) : Prop := σ.length = ρ.length ∧ ∀ (i : Nat) (d : D), ρ[i]? = some (some d) → ∃ v, σ[i]? = some (some v) ∧ Rep K H d v
def FrOk (F : Addr → Prop) (H : Hp) (M : Mp) : Prop := ∀ a, F a → (∃ o, H a = some o) ∧ M a = none
/-- what is framed is as it was -/
def Frm (F : Addr → Prop) (H H' : Hp) (M' : Mp) : Prop := ∀ a, F a → H' a = H a ∧ M' a = none
theorem FrOk.frm {F : Addr → Prop} {H : Hp} {M : Mp} (f : FrOk F H M) : Frm F H H M := fun a h => ⟨rfl, (f a h).2⟩
theorem FrOk.next {F : Addr → Prop} {H H' : Hp} {M M' : Mp} (f : FrOk F H M) (g : Frm F H H' M') : FrOk F H' M' := fun a h => ⟨by rw [(g a h).1]; exact (f a h).1, (g a h).2⟩
theorem Frm.trans {F : Addr → Prop} {H H1 H2 : Hp} {M1 M2 : Mp} (f : Frm F H H1 M1) (g : Frm F H1 H2 M2) : Frm F H H2 M2 := fun a h => ⟨(g a h).1.trans (f a h).1, (g a h).2⟩
/-- a new object -/
theorem FrOk.new {F : Addr → Prop} {H : Hp} {M : Mp} (f : FrOk F H M) {p : Addr} {u : HO} (h : H p = none) (o : MO) : Frm F H (upd H p u) (up M p o) := fun a ha => by
  have ne : a ≠ p := fun z => by obtain ⟨⟨o, q⟩, _⟩ := f a ha; rw [z, h] at q; cases q
  exact ⟨upd_ne ne, by rw [up_ne ne]; exact (f a ha).2⟩
theorem FrOk.more {F : Addr → Prop} {H : Hp} {M : Mp} (f : FrOk F H M) {p : Addr} {u : HO} (h : H p = none) : Frm F H (upd H p u) M := fun a ha => by
  have ne : a ≠ p := fun z => by obtain ⟨⟨o, q⟩, _⟩ := f a ha; rw [z, h] at q; cases q
  exact ⟨upd_ne ne, (f a ha).2⟩
theorem FrOk.put {F : Addr → Prop} {H : Hp} {M : Mp} (f : FrOk F H M) {p : Addr} {u : HO} {o : MO} (h : M p = some o) (o' : MO) : Frm F H (upd H p u) (up M p o') := fun a ha => by
  have ne : a ≠ p := fun z => by have q := (f a ha).2; rw [z, h] at q; cases q
  exact ⟨upd_ne ne, by rw [up_ne ne]; exact (f a ha).2⟩

structure Stt (K : PySem.W.Frag) (H : Hp) (σ : St) (ρ : Ro) (M : Mp) (F : Addr → Prop) : Prop where
  rs : RepS K H σ ρ
  rm : RepM K H M
  fr : FrOk F H M
theorem Stt.next {H H' : Hp} {σ : St} {ρ : Ro} {M M' : Mp} {F : Addr → Prop} (s : Stt K H σ ρ M F) (t : TupS K H H') (f : Frm F H H' M') (r : RepM K H' M') : Stt K H' σ ρ M' F :=
  ⟨⟨s.rs.1, fun i d e => let ⟨v, e1, e2⟩ := s.rs.2 i d e; ⟨v, e1, e2.stay t⟩⟩, r, s.fr.next f⟩
theorem Stt.set {H : Hp} {σ : St} {ρ : Ro} {M : Mp} {F : Addr → Prop} (s : Stt K H σ ρ M F) {d : D} {v : V} (r : Rep K H d v) (i : Nat) : Stt K H (σ.set i (some v)) (ρ.set i (some d)) M F := by
  refine ⟨⟨by rw [List.length_set, List.length_set]; exact s.rs.1, fun j e h => ?_⟩, s.rm, s.fr⟩
  by_cases hj : i = j
  · subst hj
    by_cases hl : i < ρ.length
    · rw [List.getElem?_set_self hl] at h
      cases h
      exact ⟨v, by rw [List.getElem?_set_self (by rw [s.rs.1]; exact hl)], r⟩
    · rw [List.getElem?_eq_none (by rw [List.length_set]; omega)] at h; cases h
  · rw [List.getElem?_set_ne hj] at h
    obtain ⟨u, e1, e2⟩ := s.rs.2 j e h
    exact ⟨u, by rw [List.getElem?_set_ne hj]; exact e1, e2⟩

/-- from the wish over data to the wish over values -/
def Go (K : PySem.W.Frag) (F : Addr → Prop) (H : Hp) (Q0 : DQ) (Q : VK) : Prop := ∀ d M' v H', Q0 d M' → TupS K H H' → Frm F H H' M' → RepM K H' M' → Rep K H' d v → Q v H'
def GoT (K : PySem.W.Frag) (F : Addr → Prop) (H : Hp) (Q0 : Bool → Mp → Prop) (Q : Bool → Hp → Prop) : Prop := ∀ b M' H', Q0 b M' → TupS K H H' → Frm F H H' M' → RepM K H' M' → Q b H'
def GoA (K : PySem.W.Frag) (F : Addr → Prop) (H : Hp) (Q0 : List D → Mp → Prop) (Q : List V → Hp → Prop) : Prop := ∀ ds M' vs H', Q0 ds M' → TupS K H H' → Frm F H H' M' → RepM K H' M' → Reps K H' ds vs → Q vs H'
theorem Go.from {F : Addr → Prop} {H H1 : Hp} {M1 : Mp} {Q0 : DQ} {Q : VK} (g : Go K F H Q0 Q) (t : TupS K H H1) (f : Frm F H H1 M1) : Go K F H1 Q0 Q := fun d M' v H' q t' f' r p => g d M' v H' q (t.trans t') (f.trans f') r p
theorem GoT.from {F : Addr → Prop} {H H1 : Hp} {M1 : Mp} {Q0} {Q} (g : GoT K F H Q0 Q) (t : TupS K H H1) (f : Frm F H H1 M1) : GoT K F H1 Q0 Q := fun d M' H' q t' f' r => g d M' H' q (t.trans t') (f.trans f') r
theorem GoA.from {F : Addr → Prop} {H H1 : Hp} {M1 : Mp} {Q0} {Q} (g : GoA K F H Q0 Q) (t : TupS K H H1) (f : Frm F H H1 M1) : GoA K F H1 Q0 Q := fun d M' v H' q t' f' r p => g d M' v H' q (t.trans t') (f.trans f') r p

def tD (K : PySem.W.Frag) (w : WE) : TE := fun σ H Q => ∃ ρ M F Q0, Stt K H σ ρ M F ∧ w ρ M Q0 ∧ Go K F H Q0 Q
def tDT (K : PySem.W.Frag) (w : WT) : TT := fun σ H Q => ∃ ρ M F Q0, Stt K H σ ρ M F ∧ w ρ M Q0 ∧ GoT K F H Q0 Q
def tDA (K : PySem.W.Frag) (w : WA) : TA := fun σ H Q => ∃ ρ M F Q0, Stt K H σ ρ M F ∧ w ρ M Q0 ∧ GoA K F H Q0 Q

theorem _root_.L2.PE.imp {X : Cx} {e : Expr} {t t' : TE} (h : PE X e t) (i : ∀ σ H Q, t' σ H Q → t σ H Q) : PE X e t' := ⟨fun pins s σ H Q I q => h.run pins s σ H Q I (i σ H Q q)⟩
theorem _root_.L2.PT.imp {X : Cx} {e : Expr} {t t' : TT} (h : PT X e t) (i : ∀ σ H Q, t' σ H Q → t σ H Q) : PT X e t' := ⟨fun pins s σ H Q I q => h.run pins s σ H Q I (i σ H Q q)⟩
theorem _root_.L2.PW.imp {X : Cx} {e : Expr} {t t' : TT} (h : PW X e t) (i : ∀ σ H Q, t' σ H Q → t σ H Q) : PW X e t' := ⟨fun wh pins s σ H Q I q => h.run wh pins s σ H Q I (i σ H Q q)⟩
theorem _root_.L2.PA.imp {X : Cx} {e : List Expr} {t t' : TA} (h : PA X e t) (i : ∀ σ H Q, t' σ H Q → t σ H Q) : PA X e t' := ⟨fun pos pins s σ H Q I q => h.run pos pins s σ H Q I (i σ H Q q)⟩
theorem _root_.L2.PS.imp {X : Cx} {e : Stmt} {t t' : TS} (h : PS X e t) (i : ∀ D σ H, t' D σ H → t D σ H) : PS X e t' := ⟨fun pins s σ H D I q => h.run pins s σ H D I (i D σ H q)⟩
theorem _root_.L2.PSs.imp {X : Cx} {e : List Stmt} {t t' : TS} (h : PSs X e t) (i : ∀ D σ H, t' D σ H → t D σ H) : PSs X e t' := ⟨fun pins s σ H D I q => h.run pins s σ H D I (i D σ H q)⟩

/-! ### names, constants -/
def wVar (i : Nat) : WE := fun ρ M Q => ∃ d, ρ[i]? = some (some d) ∧ Q d M
def wC (d : D) : WE := fun _ M Q => Q d M
section
variable {X : Cx} {a b c : Expr} {wa wb wc : WE} {pos : Pos}
theorem pd_var {i : Nat} {x : Str} (h : PE X a (tVar i)) : PE X a (tD X.K (wVar i)) := h.imp fun σ H Q => by
  rintro ⟨ρ, M, F, Q0, s, ⟨d, e, q⟩, g⟩
  obtain ⟨v, e1, r⟩ := s.rs.2 i d e
  exact ⟨v, e1, g d M v H q (.refl H) s.fr.frm s.rm r⟩
theorem pd_c {d : D} {v : V} (h : PE X a (tC v)) (r : ∀ H, Rep X.K H d v) : PE X a (tD X.K (wC d)) := h.imp fun σ H Q => by
  rintro ⟨ρ, M, F, Q0, s, q, g⟩
  exact g d M v H q (.refl H) s.fr.frm s.rm (r H)
/-! ### two places -/
def rD (K : PySem.W.Frag) (f : D → D → Mp → DQ → Prop) : R2 := fun x y H Q => ∃ dx dy M F Q0, Rep K H dx x ∧ Rep K H dy y ∧ RepM K H M ∧ FrOk F H M ∧ f dx dy M Q0 ∧ Go K F H Q0 Q
def w2 (f : D → D → Mp → DQ → Prop) (wa wb : WE) : WE := fun ρ M Q => wa ρ M fun x M1 => wb ρ M1 fun y M2 => f x y M2 Q
theorem two {f : D → D → Mp → DQ → Prop} {σ : St} {H : Hp} {Q : VK} (h : tD K (w2 f wa wb) σ H Q) : tOp (rD K f) (tD K wa) (tD K wb) σ H Q := by
  obtain ⟨ρ, M, F, Q0, s, q, g⟩ := h
  refine ⟨ρ, M, F, _, s, q, fun x M1 v H1 q1 t1 f1 r1 p1 => ⟨ρ, M1, F, _, s.next t1 f1 r1, q1, fun y M2 u H2 q2 t2 f2 r2 p2 => ?_⟩⟩
  exact ⟨x, y, M2, F, Q0, p1.stay t2, p2, r2, (s.fr.next f1).next f2, q2, (g.from t1 f1).from t2 f2⟩
theorem pd_bin {op : Operator} {f : D → D → Mp → DQ → Prop} (ho : OpR X (binaryOp op) (rD X.K f)) (ha : PE X a (tD X.K wa)) (hb : PE X b (tD X.K wb)) : PE X (.BinOp a op b pos) (tD X.K (w2 f wa wb)) :=
  (pe_op ho ha hb).imp fun _ _ _ h => two h
theorem pd_cmp {op : CmpOp} {f : D → D → Mp → DQ → Prop} (ho : OpR X (compareOp op) (rD X.K f)) (ha : PE X a (tD X.K wa)) (hb : PE X b (tD X.K wb)) (hm : behindInMarks op b = false) : PE X (.Compare a [op] [b] pos) (tD X.K (w2 f wa wb)) :=
  (pe_cmpR ho ha hb hm).imp fun _ _ _ h => two h
/-- a test by a value that is a truth -/
def wTest (w : WE) : WT := fun ρ M Q => w ρ M fun d M' => ∃ k, d = .bl k ∧ Q k M'
theorem test_of {w : WE} {σ : St} {H : Hp} {Q : Bool → Hp → Prop} (h : tDT K (wTest w) σ H Q) : tTest (tD K w) σ H Q := by
  obtain ⟨ρ, M, F, Q0, s, q, g⟩ := h
  refine ⟨ρ, M, F, _, s, q, fun x M1 v H1 q1 t1 f1 r1 p1 => ?_⟩
  obtain ⟨k, rfl, q1⟩ := q1
  exact ⟨k, p1, g k M1 H1 q1 t1 f1 r1⟩
theorem pdt_cmp {op : CmpOp} {f : D → D → Mp → DQ → Prop} (ho : OpR X (compareOp op) (rD X.K f)) (ha : PE X a (tD X.K wa)) (hb : PE X b (tD X.K wb)) (hm : behindInMarks op b = false) : PT X (.Compare a [op] [b] pos) (tDT X.K (wTest (w2 f wa wb))) :=
  (pt_cmpR ho ha hb hm).imp fun _ _ _ h => two (test_of h)
/-- a chain of two comparisons -/
def w3 (f f' : D → D → Mp → DQ → Prop) (wa wb wc : WE) : WE := fun ρ M Q => wa ρ M fun x M1 => wb ρ M1 fun y M2 => f x y M2 fun z M3 => ∃ k, z = .bl k ∧ if k = true then wc ρ M3 fun u M4 => f' y u M4 Q else Q (.bl false) M3
theorem three {f f' : D → D → Mp → DQ → Prop} {σ : St} {H : Hp} {Q : VK} (h : tD K (w3 f f' wa wb wc) σ H Q) : tChain (rD K f) (rD K f') (tD K wa) (tD K wb) (tD K wc) σ H Q := by
  obtain ⟨ρ, M, F, Q0, s, q, g⟩ := h
  refine ⟨ρ, M, F, _, s, q, fun x M1 v H1 q1 t1 f1 r1 p1 => ⟨ρ, M1, F, _, s.next t1 f1 r1, q1, fun y M2 u H2 q2 t2 f2 r2 p2 => ?_⟩⟩
  have fr2 := (s.fr.next f1).next f2
  refine ⟨x, y, M2, F, _, p1.stay t2, p2, r2, fr2, q2, fun z M3 z' H3 q3 t3 f3 r3 p3 => ?_⟩
  obtain ⟨k, rfl, q3⟩ := q3
  refine ⟨k, p3, ?_⟩
  have g3 := ((g.from t1 f1).from t2 f2).from t3 f3
  cases k with
  | false =>
    rw [if_neg Bool.false_ne_true] at q3 ⊢
    exact g3 _ M3 _ H3 q3 (.refl _) (fr2.next f3).frm r3 rfl
  | true =>
    rw [if_pos rfl] at q3 ⊢
    refine ⟨ρ, M3, F, _, ((s.next t1 f1 r1).next t2 f2 r2).next t3 f3 r3, q3, fun u M4 u' H4 q4 t4 f4 r4 p4 => ?_⟩
    exact ⟨y, u, M4, F, Q0, p2.stay (t3.trans t4), p4, r4, (fr2.next f3).next f4, q4, g3.from t4 f4⟩
theorem pd_chain {op op' : CmpOp} {f f' : D → D → Mp → DQ → Prop} (ho : OpR X (compareOp op) (rD X.K f)) (ho' : OpR X (compareOp op') (rD X.K f')) (ha : PE X a (tD X.K wa)) (hb : PE X b (tD X.K wb)) (hc : PE X c (tD X.K wc))
    (hm : lastMarks [op, op'] [b, c] = false) : PE X (.Compare a [op, op'] [b, c] pos) (tD X.K (w3 f f' wa wb wc)) := (pe_chain ho ho' ha hb hc hm).imp fun _ _ _ h => three h
theorem pdt_chain {op op' : CmpOp} {f f' : D → D → Mp → DQ → Prop} (ho : OpR X (compareOp op) (rD X.K f)) (ho' : OpR X (compareOp op') (rD X.K f')) (ha : PE X a (tD X.K wa)) (hb : PE X b (tD X.K wb)) (hc : PE X c (tD X.K wc))
    (hm : lastMarks [op, op'] [b, c] = false) : PT X (.Compare a [op, op'] [b, c] pos) (tDT X.K (wTest (w3 f f' wa wb wc))) := (pt_chain ho ho' ha hb hc hm).imp fun _ _ _ h => three (test_of h)
/-! ### one place -/
def rD1 (K : PySem.W.Frag) (f : D → Mp → DQ → Prop) : V → Hp → VK → Prop := fun x H Q => ∃ dx M F Q0, Rep K H dx x ∧ RepM K H M ∧ FrOk F H M ∧ f dx M Q0 ∧ Go K F H Q0 Q
def w1 (f : D → Mp → DQ → Prop) (wa : WE) : WE := fun ρ M Q => wa ρ M fun x M1 => f x M1 Q
theorem one {f : D → Mp → DQ → Prop} {σ : St} {H : Hp} {Q : VK} (h : tD K (w1 f wa) σ H Q) : tUn (rD1 K f) (tD K wa) σ H Q := by
  obtain ⟨ρ, M, F, Q0, s, q, g⟩ := h
  refine ⟨ρ, M, F, _, s, q, fun x M1 v H1 q1 t1 f1 r1 p1 => ?_⟩
  exact ⟨x, M1, F, Q0, p1, r1, s.fr.next f1, q1, g.from t1 f1⟩
theorem pd_un {op : UnaryOp} {f : D → Mp → DQ → Prop} (ho : UnR X (unaryOp op) (rD1 X.K f)) (ha : PE X a (tD X.K wa)) : PE X (.UnaryOp op a pos) (tD X.K (w1 f wa)) := (pe_un ho ha).imp fun _ _ _ h => one h
/-! ### truth -/
def truD (d : D) (M : Mp) (k : Bool) : Prop := match d with
  | .non => k = false
  | .bl b => k = b
  | .int i => k = (i != 0)
  | .str y => y.length ≤ sizeLine ∧ k = ((y.length : Int) != 0)
  | .tup ds => k = !ds.isEmpty
  | .ref a => (∃ ds, M a = some (.lst ds) ∧ k = !ds.isEmpty) ∨ ∃ kvs, M a = some (.dK kvs) ∧ k = !kvs.isEmpty
  | .ty _ => False
theorem emp_of {H : Hp} {ds : List D} {vs : List V} (r : Reps K H ds vs) : (!ds.isEmpty) = !vs.isEmpty := by
  have e := r.length
  cases ds <;> cases vs <;> simp at e ⊢
theorem truD_ok {d : D} {M : Mp} {k : Bool} {H : Hp} {v : V} (h : truD d M k) (r : Rep K H d v) (m : RepM K H M) : TruV K v H k := by
  cases d with
  | non => cases r; exact h
  | bl b => cases r; exact h
  | int i => cases r; exact h
  | str y => cases r; exact h
  | ty n => exact h.elim
  | tup ds =>
    unfold Rep at r
    obtain ⟨a, vs, rfl, s, r⟩ := r
    exact .inr (.inl ⟨vs, s, by rw [← emp_of r]; exact h⟩)
  | ref a =>
    cases r
    rcases h with ⟨ds, e, h⟩ | ⟨kvs, e, h⟩
    · obtain ⟨vs, e1, r⟩ := m a _ e
      exact .inl ⟨vs, .of e1, by rw [← emp_of r]; exact h⟩
    · obtain ⟨vs, e1, r⟩ := m a _ e
      refine .inr (.inr ⟨vs, e1, ?_⟩)
      have e2 := r.length
      rw [h]
      cases kvs <;> cases vs <;> simp at e2 ⊢
def wTru (w : WE) : WT := fun ρ M Q => w ρ M fun d M' => ∃ k, truD d M' k ∧ Q k M'
theorem pdt_truth (ha : PE X a (tD X.K wa)) (he : ∀ whole, isTrue a X.env whole = (do let v ← whole; standAt a.pos; holding [v] (truthy v))) : PT X a (tDT X.K (wTru wa)) :=
  (pt_truth ha he).imp fun σ H Q => by
    rintro ⟨ρ, M, F, Q0, s, q, g⟩
    refine ⟨ρ, M, F, _, s, q, fun x M1 v H1 q1 t1 f1 r1 p1 => ?_⟩
    obtain ⟨k, e, q1⟩ := q1
    exact ⟨k, truD_ok e p1 r1, g k M1 H1 q1 t1 f1 r1⟩
def wAnd (t u : WT) : WT := fun ρ M Q => t ρ M fun b M1 => if b = true then u ρ M1 Q else Q false M1
def wOr (t u : WT) : WT := fun ρ M Q => t ρ M fun b M1 => if b = true then Q true M1 else u ρ M1 Q
def wNot (t : WT) : WT := fun ρ M Q => t ρ M fun b M1 => Q (!b) M1
theorem and_of {wt wu : WT} {σ : St} {H : Hp} {Q} (h : tDT K (wAnd wt wu) σ H Q) : tAnd (tDT K wt) (tDT K wu) σ H Q := by
  obtain ⟨ρ, M, F, Q0, s, q, g⟩ := h
  refine ⟨ρ, M, F, _, s, q, fun b M1 H1 q1 t1 f1 r1 => ?_⟩
  cases b with
  | true => rw [if_pos rfl] at q1 ⊢; exact ⟨ρ, M1, F, Q0, s.next t1 f1 r1, q1, g.from t1 f1⟩
  | false => rw [if_neg Bool.false_ne_true] at q1 ⊢; exact g _ M1 H1 q1 t1 f1 r1
theorem or_of {wt wu : WT} {σ : St} {H : Hp} {Q} (h : tDT K (wOr wt wu) σ H Q) : tOr (tDT K wt) (tDT K wu) σ H Q := by
  obtain ⟨ρ, M, F, Q0, s, q, g⟩ := h
  refine ⟨ρ, M, F, _, s, q, fun b M1 H1 q1 t1 f1 r1 => ?_⟩
  cases b with
  | true => rw [if_pos rfl] at q1 ⊢; exact g _ M1 H1 q1 t1 f1 r1
  | false => rw [if_neg Bool.false_ne_true] at q1 ⊢; exact ⟨ρ, M1, F, Q0, s.next t1 f1 r1, q1, g.from t1 f1⟩
theorem pdw_and {wt wu : WT} {rest : List Expr} (ha : PT X a (tDT X.K wt)) (hb : PW X (.BoolOp .And (b :: rest) pos) (tDT X.K wu)) : PW X (.BoolOp .And (a :: b :: rest) pos) (tDT X.K (wAnd wt wu)) := (pw_and ha hb).imp fun _ _ _ h => and_of h
theorem pdw_or {wt wu : WT} {rest : List Expr} (ha : PT X a (tDT X.K wt)) (hb : PW X (.BoolOp .Or (b :: rest) pos) (tDT X.K wu)) : PW X (.BoolOp .Or (a :: b :: rest) pos) (tDT X.K (wOr wt wu)) := (pw_or ha hb).imp fun _ _ _ h => or_of h
theorem pdt_not {wt : WT} (ha : PT X a (tDT X.K wt)) : PT X (.UnaryOp .Not a pos) (tDT X.K (wNot wt)) := (pt_not ha).imp fun σ H Q => by
  rintro ⟨ρ, M, F, Q0, s, q, g⟩
  exact ⟨ρ, M, F, _, s, q, fun b M1 H1 q1 t1 f1 r1 => g _ M1 H1 q1 t1 f1 r1⟩
/-! ### and, or, not as values -/
def wAndV (wa wb : WE) : WE := fun ρ M Q => wa ρ M fun x M1 => ∃ k, truD x M1 k ∧ if k = true then wb ρ M1 Q else Q x M1
def wOrV (wa wb : WE) : WE := fun ρ M Q => wa ρ M fun x M1 => ∃ k, truD x M1 k ∧ if k = true then Q x M1 else wb ρ M1 Q
def wNotV (wa : WE) : WE := fun ρ M Q => wa ρ M fun x M1 => ∃ k, truD x M1 k ∧ Q (.bl (!k)) M1
theorem pd_and {rest : List Expr} (ha : PE X a (tD X.K wa)) (hb : PE X (.BoolOp .And (b :: rest) pos) (tD X.K wb)) : PE X (.BoolOp .And (a :: b :: rest) pos) (tD X.K (wAndV wa wb)) := (pe_andT ha hb).imp fun σ H Q => by
  rintro ⟨ρ, M, F, Q0, s, q, g⟩
  refine ⟨ρ, M, F, _, s, q, fun x M1 v H1 q1 t1 f1 r1 p1 => ?_⟩
  obtain ⟨k, e, q1⟩ := q1
  refine ⟨k, truD_ok e p1 r1, ?_⟩
  cases k with
  | true => rw [if_pos rfl] at q1 ⊢; exact ⟨ρ, M1, F, Q0, s.next t1 f1 r1, q1, g.from t1 f1⟩
  | false => rw [if_neg Bool.false_ne_true] at q1 ⊢; exact g _ M1 v H1 q1 t1 f1 r1 p1
theorem pd_or {rest : List Expr} (ha : PE X a (tD X.K wa)) (hb : PE X (.BoolOp .Or (b :: rest) pos) (tD X.K wb)) : PE X (.BoolOp .Or (a :: b :: rest) pos) (tD X.K (wOrV wa wb)) := (pe_orT ha hb).imp fun σ H Q => by
  rintro ⟨ρ, M, F, Q0, s, q, g⟩
  refine ⟨ρ, M, F, _, s, q, fun x M1 v H1 q1 t1 f1 r1 p1 => ?_⟩
  obtain ⟨k, e, q1⟩ := q1
  refine ⟨k, truD_ok e p1 r1, ?_⟩
  cases k with
  | false => rw [if_neg Bool.false_ne_true] at q1 ⊢; exact ⟨ρ, M1, F, Q0, s.next t1 f1 r1, q1, g.from t1 f1⟩
  | true => rw [if_pos rfl] at q1 ⊢; exact g _ M1 v H1 q1 t1 f1 r1 p1
theorem pd_not (ha : PE X a (tD X.K wa)) : PE X (.UnaryOp .Not a pos) (tD X.K (wNotV wa)) := (pe_notT ha).imp fun σ H Q => by
  rintro ⟨ρ, M, F, Q0, s, q, g⟩
  refine ⟨ρ, M, F, _, s, q, fun x M1 v H1 q1 t1 f1 r1 p1 => ?_⟩
  obtain ⟨k, e, q1⟩ := q1
  exact ⟨k, truD_ok e p1 r1, g _ M1 _ H1 q1 t1 f1 r1 rfl⟩
def wIf (t : WT) (wa wb : WE) : WE := fun ρ M Q => t ρ M fun b M1 => if b = true then wa ρ M1 Q else wb ρ M1 Q
theorem pd_if {wt : WT} (hc : PT X c (tDT X.K wt)) (ha : PE X a (tD X.K wa)) (hb : PE X b (tD X.K wb)) : PE X (.IfExp c a b pos) (tD X.K (wIf wt wa wb)) := (pe_ifExp hc ha hb).imp fun σ H Q => by
  rintro ⟨ρ, M, F, Q0, s, q, g⟩
  refine ⟨ρ, M, F, _, s, q, fun b M1 H1 q1 t1 f1 r1 => ?_⟩
  cases b with
  | false => rw [if_neg Bool.false_ne_true] at q1 ⊢; exact ⟨ρ, M1, F, Q0, s.next t1 f1 r1, q1, g.from t1 f1⟩
  | true => rw [if_pos rfl] at q1 ⊢; exact ⟨ρ, M1, F, Q0, s.next t1 f1 r1, q1, g.from t1 f1⟩
/-! ### argument lists, displays -/
def wNil : WA := fun _ M Q => Q [] M
def wCons (w : WE) (u : WA) : WA := fun ρ M Q => w ρ M fun d M1 => u ρ M1 fun ds M2 => Q (d :: ds) M2
theorem pda_nil : PA X [] (tDA X.K wNil) := pa_nil.imp fun σ H Q => by
  rintro ⟨ρ, M, F, Q0, s, q, g⟩
  exact g [] M [] H q (.refl _) s.fr.frm s.rm .nil
theorem pda_cons {es : List Expr} {u : WA} (ha : PE X a (tD X.K wa)) (hr : PA X es (tDA X.K u)) (hs : starEach (a :: es) X.env = (false, eval a X.env) :: starEach es X.env) : PA X (a :: es) (tDA X.K (wCons wa u)) := (pa_cons ha hr hs).imp fun σ H Q => by
  rintro ⟨ρ, M, F, Q0, s, q, g⟩
  refine ⟨ρ, M, F, _, s, q, fun x M1 v H1 q1 t1 f1 r1 p1 => ⟨ρ, M1, F, _, s.next t1 f1 r1, q1, fun ds M2 vs H2 q2 t2 f2 r2 p2 => ?_⟩⟩
  exact g _ M2 _ H2 q2 (t1.trans t2) (f1.trans f2) r2 (.cons (p1.stay t2) p2)
def wTup (u : WA) : WE := fun ρ M Q => u ρ M fun ds M1 => ds.length ≤ sizeLine ∧ Q (.tup ds) M1
def wLst (u : WA) : WE := fun ρ M Q => u ρ M fun ds M1 => ds.length ≤ sizeLine ∧ ∀ p, M1 p = none → Q (.ref p) (up M1 p (.lst ds))
theorem pd_tup {es : List Expr} {u : WA} {k : Nat} (h : PA X es (tDA X.K u)) : PE X (.Tuple es k pos) (tD X.K (wTup u)) := (pe_tup h).imp fun σ H Q => by
  rintro ⟨ρ, M, F, Q0, s, q, g⟩
  refine ⟨ρ, M, F, _, s, q, fun ds M1 vs H1 q1 t1 f1 r1 p1 => ⟨by rw [← p1.length]; exact q1.1, fun p hp => ?_⟩⟩
  refine (g.from t1 f1) _ M1 _ _ q1.2 (.new hp) ((s.fr.next f1).more hp) (r1.more hp) ?_
  unfold Rep
  exact ⟨p, vs, rfl, .of upd_same, p1.stay (.new hp)⟩
theorem pd_lst {es : List Expr} {u : WA} (h : PA X es (tDA X.K u)) : PE X (.List es pos) (tD X.K (wLst u)) := (pe_lst h).imp fun σ H Q => by
  rintro ⟨ρ, M, F, Q0, s, q, g⟩
  refine ⟨ρ, M, F, _, s, q, fun ds M1 vs H1 q1 t1 f1 r1 p1 => ⟨by rw [← p1.length]; exact q1.1, fun p hp => ?_⟩⟩
  exact (g.from t1 f1) _ _ _ _ (q1.2 p (r1.none hp)) (.new hp) ((s.fr.next f1).new hp _) (r1.new hp ⟨vs, upd_same, p1.stay (.new hp)⟩) rfl
/-! ### a call of a built-in -/
def rDL (K : PySem.W.Frag) (f : Spec) : List V → Hp → VK → Prop := fun xs H Q => ∃ ds M F Q0, Reps K H ds xs ∧ RepM K H M ∧ FrOk F H M ∧ f ds M Q0 ∧ Go K F H Q0 Q
def wCall (f : Spec) (u : WA) : WE := fun ρ M Q => u ρ M fun ds M1 => f ds M1 Q
theorem callB_of {f : Spec} {u : WA} {σ : St} {H : Hp} {Q : VK} (h : tD K (wCall f u) σ H Q) : tCB (rDL K f) (tDA K u) σ H Q := by
  obtain ⟨ρ, M, F, Q0, s, q, g⟩ := h
  exact ⟨ρ, M, F, _, s, q, fun ds M1 vs H1 q1 t1 f1 r1 p1 => ⟨ds, M1, F, Q0, p1, r1, s.fr.next f1, q1, g.from t1 f1⟩⟩
end
end DL

set_option Elab.async false
set_option linter.all false
set_option maxRecDepth 100000
set_option maxHeartbeats 4000000
/-! DLc: operators over data. -/
namespace DL
open PySem L2
variable {K : PySem.W.Frag}
mutual
inductive Dat (M : Mp) : D → PyData → Prop
  | non : Dat M .non .none
  | bl (b : Bool) : Dat M (.bl b) (.bool b)
  | int (i : Int) : Dat M (.int i) (.int i)
  | str (x : Str) : Dat M (.str x) (.str x)
  | tup {ds : List D} {ps : List PyData} : Dats M ds ps → Dat M (.tup ds) (.tuple ps)
  | lst {a : Addr} {ds : List D} {ps : List PyData} : M a = some (.lst ds) → Dats M ds ps → Dat M (.ref a) (.list ps)
inductive Dats (M : Mp) : List D → List PyData → Prop
  | nil : Dats M [] []
  | cons {d : D} {p : PyData} {ds : List D} {ps : List PyData} : Dat M d p → Dats M ds ps → Dats M (d :: ds) (p :: ps)
end
mutual
theorem Dat.dp {M : Mp} {H : Hp} (m : RepM K H M) : ∀ {d : D} {p : PyData} {v : V}, Dat M d p → Rep K H d v → Dp K H v p
  | _, _, _, .non, r => by cases r; exact .non
  | _, _, _, .bl b, r => by cases r; exact .bl b
  | _, _, _, .int i, r => by cases r; exact .int i
  | _, _, _, .str x, r => by cases r; exact .str x
  | _, _, _, .tup h, r => by
    unfold Rep at r
    obtain ⟨a, vs, rfl, s, r⟩ := r
    exact .tup s (Dats.dp m h r)
  | _, _, _, .lst e h, r => by
    cases r
    obtain ⟨vs, e1, r⟩ := m _ _ e
    exact .lst (.of e1) (Dats.dp m h r)
theorem Dats.dp {M : Mp} {H : Hp} (m : RepM K H M) : ∀ {d : List D} {p : List PyData} {v : List V}, Dats M d p → Reps K H d v → DpAll K H v p
  | _, _, _, .nil, r => by unfold Reps at r; subst r; exact .nil
  | _, _, _, .cons h1 h2, r => by
    unfold Reps at r
    obtain ⟨v, vs, rfl, r1, r2⟩ := r
    exact .cons (Dat.dp m h1 r1) (Dats.dp m h2 r2)
end
mutual
/-- data without addresses -/
def plain : D → Bool
  | .tup ds => plains ds
  | .ref _ => false
  | .ty _ => false
  | _ => true
def plains : List D → Bool
  | [] => true
  | d :: ds => plain d && plains ds
end
mutual
def py : D → PyData
  | .non => .none
  | .bl b => .bool b
  | .int i => .int i
  | .str x => .str x
  | .tup ds => .tuple (pys ds)
  | .ref _ => .none
  | .ty _ => .none
def pys : List D → List PyData
  | [] => []
  | d :: ds => py d :: pys ds
end
theorem pys_map : ∀ ds : List D, pys ds = ds.map py
  | [] => by unfold pys; rfl
  | d :: ds => by unfold pys; rw [pys_map ds]; rfl
theorem plains_all : ∀ ds : List D, plains ds = ds.all plain
  | [] => by unfold plains; rfl
  | d :: ds => by unfold plains; rw [plains_all ds]; rfl
mutual
theorem Dat.plain {M : Mp} : ∀ {d : D}, DL.plain d = true → Dat M d (py d)
  | .non, _ => by unfold py; exact .non
  | .bl b, _ => by unfold py; exact .bl b
  | .int i, _ => by unfold py; exact .int i
  | .str x, _ => by unfold py; exact .str x
  | .tup ds, h => by unfold py; unfold DL.plain at h; exact .tup (Dats.plain h)
  | .ref _, h => by unfold DL.plain at h; cases h
  | .ty _, h => by unfold DL.plain at h; cases h
theorem Dats.plain {M : Mp} : ∀ {d : List D}, DL.plains d = true → Dats M d (pys d)
  | [], _ => by unfold pys; exact .nil
  | d :: ds, h => by
    unfold pys; unfold plains at h
    rw [Bool.and_eq_true] at h
    exact .cons (Dat.plain h.1) (Dats.plain h.2)
end
section
variable {X : Cx}
/-- what is asked of operators' room -/
abbrev Ru (X : Cx) : Prop := X.A.units + 65 < cLine
/-! ### == and != -/
def eqD (neg : Bool) : D → D → Mp → DQ → Prop := fun x y M Q => (∃ p q, Dat M x p ∧ Dat M y q ∧ SeqAt.shaped p = true ∧ SeqAt.shaped q = true ∧ Q (.bl (if neg then !PyData.eqv p q else PyData.eqv p q)) M) ∨
  ∃ a b : Str, x = .str a ∧ y = .str b ∧ Q (.bl (if neg then !decide (a = b) else decide (a = b))) M
theorem dec_strV {a b : Str} : decide (V.str a = V.str b) = decide (a = b) := by rw [Bool.eq_iff_iff]; simp
theorem od_eq (hu : Ru X) : OpR X (compareOp .Eq) (rD X.K (eqD false)) := fun pins s σ H x y v u Q I rx ry h => by
  obtain ⟨dx, dy, M, F, Q0, r1, r2, m, fr, ⟨p, q, h1, h2, s1, s2, hq⟩ | ⟨a, b, rfl, rfl, hq⟩, g⟩ := h
  · exact op_eqD (by have := hu; omega) pins s σ H x y v u Q I rx ry ⟨p, q, h1.dp m r1, h2.dp m r2, s1, s2, g _ M _ H hq (.refl _) fr.frm m rfl⟩
  · cases r1; cases r2
    exact op_eq pins s σ H _ _ v u Q I rx ry ⟨rfl, by rw [dec_strV]; exact g _ M _ H hq (.refl _) fr.frm m rfl⟩
theorem od_ne (hu : Ru X) : OpR X (compareOp .NotEq) (rD X.K (eqD true)) := fun pins s σ H x y v u Q I rx ry h => by
  obtain ⟨dx, dy, M, F, Q0, r1, r2, m, fr, ⟨p, q, h1, h2, s1, s2, hq⟩ | ⟨a, b, rfl, rfl, hq⟩, g⟩ := h
  · exact op_neD (by have := hu; omega) pins s σ H x y v u Q I rx ry ⟨p, q, h1.dp m r1, h2.dp m r2, s1, s2, g _ M _ H hq (.refl _) fr.frm m rfl⟩
  · cases r1; cases r2
    exact op_ne pins s σ H _ _ v u Q I rx ry ⟨rfl, by rw [dec_strV]; exact g _ M _ H hq (.refl _) fr.frm m rfl⟩
/-! ### <, <=, >, >= of data of one kind -/
inductive Ord where | lt | le | gt | ge
def Ord.op : Ord → CmpOp | .lt => .Lt | .le => .LtE | .gt => .Gt | .ge => .GtE
def Ord.of (o : Ord) (p q : PyData) : Bool := match o with
  | .lt => PySem.W.dataLt p q | .le => !PySem.W.dataLt q p | .gt => PySem.W.dataLt q p | .ge => !PySem.W.dataLt p q
def ordD (o : Ord) : D → D → Mp → DQ → Prop := fun x y M Q => (∃ i j, x = .int i ∧ y = .int j ∧ Q (.bl (match o with | .lt => decide (i < j) | .le => decide (i ≤ j) | .gt => decide (j < i) | .ge => decide (j ≤ i))) M) ∨
  (∃ p q, Dat M x p ∧ Dat M y q ∧ PySem.W.alike p q = true ∧ p ≠ .none ∧ p.depth ≤ 64 ∧ Q (.bl (o.of p q)) M)
theorem od_ord (o : Ord) (hu : Ru X) : OpR X (compareOp o.op) (rD X.K (ordD o)) := fun pins s σ H x y v u Q I rx ry h => by
  obtain ⟨dx, dy, M, F, Q0, r1, r2, m, fr, h, g⟩ := h
  rcases h with ⟨i, j, rfl, rfl, hq⟩ | ⟨p, q, h1, h2, al, nn, dp, hq⟩
  · cases r1; cases r2
    have e := g _ M _ H hq (.refl _) fr.frm m rfl
    cases o
    · exact op_lt pins s σ H _ _ v u Q I rx ry ⟨i, j, rfl, rfl, e⟩
    · exact op_le pins s σ H _ _ v u Q I rx ry ⟨i, j, rfl, rfl, e⟩
    · exact op_gt pins s σ H _ _ v u Q I rx ry ⟨i, j, rfl, rfl, e⟩
    · exact op_ge pins s σ H _ _ v u Q I rx ry ⟨i, j, rfl, rfl, e⟩
  · obtain ⟨as, e1⟩ := Dp.reads I p x v (h1.dp m r1) rx
    obtain ⟨bs, e2⟩ := Dp.reads I q y u (h2.dp m r2) ry
    have hr : X.A.units + min p.depth q.depth < cLine := by have := hu; have := Nat.min_le_left p.depth q.depth; omega
    have e : EP X pins σ Q (.bool (o.of p q)) s := ⟨.bl (o.of p q), H, I, rfl, g _ M _ H hq (.refl _) fr.frm m rfl⟩
    cases o
    · exact PySem.W.lt_data e1 e2 al nn hr e
    · exact PySem.W.le_data e1 e2 al nn hr e
    · exact PySem.W.gt_data e1 e2 al nn hr e
    · exact PySem.W.ge_data e1 e2 al nn hr e
/-! ### in, not in -/
def negB (neg b : Bool) : Bool := if neg then !b else b
def keyD : D → Option Key
  | .int i => some (.inl i)
  | .str x => some (.inr x)
  | _ => none
/-- items of a list or a tuple -/
def seqD (M : Mp) (y : D) (ds : List D) : Prop := y = .tup ds ∨ ∃ a, y = .ref a ∧ M a = some (.lst ds)
def inD (neg : Bool) : D → D → Mp → DQ → Prop := fun x y M Q =>
  (∃ p ds ps, Dat M x p ∧ seqD M y ds ∧ Dats M ds ps ∧ SeqAt.shaped p = true ∧ PyData.canLayAll0 ps = true ∧ Q (.bl (negB neg (ps.any fun z => PyData.eqv z p))) M) ∨
  (∃ (c : Nat) (z : Str), x = .str ⟨#[c]⟩ ∧ y = .str z ∧ Q (.bl (negB neg (decide (c ∈ z.cps.toList)))) M)
theorem od_in (neg : Bool) (hu : Ru X) : OpR X (compareOp (if neg then .NotIn else .In)) (rD X.K (inD neg)) := fun pins s σ H x y v u Q I rx ry h => by
  obtain ⟨dx, dy, M, F, Q0, r1, r2, m, fr, h, g⟩ := h
  rcases h with ⟨p, ds, ps, h1, h2, h3, s1, s2, hq⟩ | ⟨c, z, rfl, rfl, hq⟩
  · obtain ⟨as, e1⟩ := Dp.reads I p x v (h1.dp m r1) rx
    have hr : X.A.units + 1 + min (PyData.depthAll ps) p.depth < cLine := by
      have := hu; have := Nat.min_le_right (PyData.depthAll ps) p.depth; have := SeqAt.depth_of_shaped s1; omega
    have e : EP X pins σ Q (.bool (negB neg (ps.any fun z => PyData.eqv z p))) s := ⟨.bl _, H, I, rfl, g _ M _ H hq (.refl _) fr.frm m rfl⟩
    rcases h2 with rfl | ⟨a, rfl, ha⟩
    · obtain ⟨bs, e2⟩ := Dp.reads I (.tuple ps) y u ((Dat.tup h3).dp m r2) ry
      cases neg
      · exact SeqAt.in_tuple_reads e2 e1 s2 (SeqAt.canLay_of_shaped s1) hr e
      · exact SeqAt.notIn_tuple_reads e2 e1 s2 (SeqAt.canLay_of_shaped s1) hr e
    · obtain ⟨bs, e2⟩ := Dp.reads I (.list ps) y u ((Dat.lst ha h3).dp m r2) ry
      cases neg
      · exact SeqAt.in_list_reads e2 e1 s2 (SeqAt.canLay_of_shaped s1) hr e
      · exact SeqAt.notIn_list_reads e2 e1 s2 (SeqAt.canLay_of_shaped s1) hr e
  · cases r1; cases r2
    have e := g _ M _ H hq (.refl _) fr.frm m rfl
    cases neg
    · exact op_in_sign pins s σ H _ _ v u Q I rx ry ⟨c, z, rfl, rfl, e⟩
    · exact op_notIn_sign pins s σ H _ _ v u Q I rx ry ⟨c, z, rfl, rfl, e⟩
/-! ### is, is not: None, truths -/
def isNon : D → Bool | .non => true | _ => false
def isD (neg : Bool) : D → D → Mp → DQ → Prop := fun x y M Q =>
  (y = .non ∧ Q (.bl (negB neg (isNon x))) M) ∨ (∃ a b : Bool, x = .bl a ∧ y = .bl b ∧ Q (.bl (negB neg (decide (a = b)))) M)
theorem od_is (neg : Bool) : OpR X (compareOp (if neg then .IsNot else .Is)) (rD X.K (isD neg)) := fun pins s σ H x y v u Q I rx ry h => by
  obtain ⟨dx, dy, M, F, Q0, r1, r2, m, fr, h, g⟩ := h
  rcases h with ⟨rfl, hq⟩ | ⟨a, b, rfl, rfl, hq⟩
  · cases r2
    have e0 : decide (x = V.non) = isNon dx := by
      cases dx <;> (try (cases r1; rfl))
      unfold Rep at r1
      obtain ⟨a, vs, rfl, _⟩ := r1
      rfl
    have e := g _ M _ H hq (.refl _) fr.frm m rfl
    cases neg
    · exact op_isN pins s σ H _ _ v u Q I rx ry ⟨rfl, by rw [e0]; exact e⟩
    · exact op_notN pins s σ H _ _ v u Q I rx ry ⟨rfl, by rw [e0]; exact e⟩
  · cases r1; cases r2
    have e := g _ M _ H hq (.refl _) fr.frm m rfl
    cases neg
    · exact op_isBl pins s σ H _ _ v u Q I rx ry ⟨a, b, rfl, rfl, e⟩
    · exact op_notBl pins s σ H _ _ v u Q I rx ry ⟨a, b, rfl, rfl, e⟩
/-! ### + -/
def addD : D → D → Mp → DQ → Prop := fun x y M Q => match x, y with
  | .int i, .int j => Q (.int (i + j)) M
  | .str a, .str b => a.length + b.length ≤ sizeLine ∧ Q (.str (a ++ b)) M
  | .tup xs, .tup ys => xs.length + ys.length ≤ sizeLine ∧ Q (.tup (xs ++ ys)) M
  | .ref a, .ref b => ∃ xs ys, M a = some (.lst xs) ∧ M b = some (.lst ys) ∧ xs.length + ys.length ≤ sizeLine ∧ ∀ p, M p = none → Q (.ref p) (up M p (.lst (xs ++ ys)))
  | _, _ => False
theorem od_add : OpR X (binaryOp .Add) (rD X.K addD) := fun pins s σ H x y v u Q I rx ry h => by
  obtain ⟨dx, dy, M, F, Q0, r1, r2, m, fr, h, g⟩ := h
  cases dx <;> cases dy <;> (try exact h.elim)
  · cases r1; cases r2
    exact op_add pins s σ H _ _ v u Q I rx ry ⟨_, _, rfl, rfl, g _ M _ H h (.refl _) fr.frm m rfl⟩
  · cases r1; cases r2
    exact op_add_str pins s σ H _ _ v u Q I rx ry ⟨_, _, rfl, rfl, h.1, g _ M _ H h.2 (.refl _) fr.frm m rfl⟩
  · cases r1; cases r2
    obtain ⟨xs, ys, e1, e2, hz, h⟩ := h
    obtain ⟨vs, q1, p1⟩ := m _ _ e1
    obtain ⟨us, q2, p2⟩ := m _ _ e2
    refine op_cat pins s σ H _ _ v u Q I rx ry ⟨_, _, vs, us, rfl, rfl, q1, q2, by rw [← p1.length, ← p2.length]; exact hz, fun p hp => ?_⟩
    exact g _ _ _ _ (h p (m.none hp)) (.new hp) (fr.new hp _) (m.new hp ⟨_, upd_same, (p1.append p2).stay (.new hp)⟩) rfl
  · unfold Rep at r1 r2
    obtain ⟨a, vs, rfl, q1, p1⟩ := r1
    obtain ⟨b, us, rfl, q2, p2⟩ := r2
    refine op_catA pins s σ H _ _ v u Q I rx ry ⟨a, b, vs, us, rfl, rfl, q1, q2, by rw [← p1.length, ← p2.length]; exact h.1, fun e => ?_, fun e e2 => ?_, fun e e2 p hp => ?_⟩
    · refine g _ M _ H h.2 (.refl _) fr.frm m ?_
      subst e
      have e3 := p1.length
      rw [List.length_nil, List.length_eq_zero_iff] at e3
      subst e3
      unfold Rep
      exact ⟨b, us, rfl, q2, p2⟩
    · refine g _ M _ H h.2 (.refl _) fr.frm m ?_
      subst e2
      have e3 := p2.length
      rw [List.length_nil, List.length_eq_zero_iff] at e3
      subst e3
      rw [List.append_nil]
      unfold Rep
      exact ⟨a, vs, rfl, q1, p1⟩
    · refine g _ M _ _ h.2 (.new hp) (fr.more hp) (m.more hp) ?_
      unfold Rep
      exact ⟨p, _, rfl, .of upd_same, (p1.append p2).stay (.new hp)⟩
/-! ### numbers -/
def intD (C : Int → Int → Prop) (f : Int → Int → Int) : D → D → Mp → DQ → Prop := fun x y M Q => ∃ i j, x = .int i ∧ y = .int j ∧ C i j ∧ Q (.int (f i j)) M
theorem od_int {op : Operator} {C : Int → Int → Prop} {f : Int → Int → Int} (h : OpR X (binaryOp op) (rI C fun i j => .int (f i j))) : OpR X (binaryOp op) (rD X.K (intD C f)) := fun pins s σ H x y v u Q I rx ry hh => by
  obtain ⟨dx, dy, M, F, Q0, r1, r2, m, fr, ⟨i, j, rfl, rfl, hc, hq⟩, g⟩ := hh
  cases r1; cases r2
  exact h pins s σ H _ _ v u Q I rx ry ⟨i, j, rfl, rfl, hc, g _ M _ H hq (.refl _) fr.frm m rfl⟩
theorem op_sub' : OpR X (binaryOp .Sub) (rI (fun _ _ => True) fun i j => .int (i - j)) := fun pins s σ H x y v u Q I rx ry h => by
  obtain ⟨i, j, e1, e2, _, q⟩ := h
  exact op_sub pins s σ H x y v u Q I rx ry ⟨i, j, e1, e2, q⟩
/-- a tuple or a list some times, a number times a number -/
def mulD : D → D → Mp → DQ → Prop := fun x y M Q => match x, y with
  | .int i, .int j => CMul i j ∧ Q (.int (i * j)) M
  | .ref a, .int k => ∃ xs, M a = some (.lst xs) ∧ 0 ≤ k ∧ k < 2 ^ 62 ∧ xs.length * k.toNat ≤ sizeLine ∧ ∀ p, M p = none → Q (.ref p) (up M p (.lst (List.replicate k.toNat xs).flatten))
  | _, _ => False
theorem Reps.times {H : Hp} {ds : List D} {vs : List V} (r : Reps K H ds vs) : ∀ n : Nat, Reps K H (List.replicate n ds).flatten (List.replicate n vs).flatten
  | 0 => by rw [List.replicate_zero, List.replicate_zero]; exact .nil
  | n + 1 => by rw [List.replicate_succ, List.replicate_succ, List.flatten_cons, List.flatten_cons]; exact r.append (r.times n)
theorem od_mul : OpR X (binaryOp .Mult) (rD X.K mulD) := fun pins s σ H x y v u Q I rx ry h => by
  obtain ⟨dx, dy, M, F, Q0, r1, r2, m, fr, h, g⟩ := h
  cases dx <;> cases dy <;> (try exact h.elim)
  · cases r1; cases r2
    exact op_mul pins s σ H _ _ v u Q I rx ry ⟨_, _, rfl, rfl, h.1, g _ M _ H h.2 (.refl _) fr.frm m rfl⟩
  · cases r1; cases r2
    obtain ⟨xs, e1, k0, k1, hz, h⟩ := h
    obtain ⟨vs, q1, p1⟩ := m _ _ e1
    refine op_rep pins s σ H _ _ v u Q I rx ry ⟨_, _, vs, rfl, rfl, q1, by omega, by omega, by rw [← p1.length]; exact hz, fun p hp => ?_⟩
    exact g _ _ _ _ (h p (m.none hp)) (.new hp) (fr.new hp _) (m.new hp ⟨_, upd_same, (p1.times _).stay (.new hp)⟩) rfl
end
end DL

set_option Elab.async false
set_option linter.all false
set_option maxRecDepth 100000
set_option maxHeartbeats 4000000
/-! DLt: sorted of tuples of which the first is empty. -/
namespace DL
open PySem PySem.W PySem.SeqAt PySem.Calls PyProof.Rows
section
variable {prog : Program} {w : World} {A : Around} {E : Value → Shared → Prop} {s : Shared}
theorem call_tuple_lt' {Q : Value → Shared → Prop} {l b : Addr} {items items2 : Array Value} {e r : Nat → Bool} (hl : s.heap.IsTuple l items) (hb : s.heap.IsTuple b items2)
    (he : ∀ j (h1 : j < items.size) (h2 : j < items2.size), EqAt A.in1 s items[j] items2[j] (e j)) (hr : ∀ j (h1 : j < items.size) (h2 : j < items2.size), e j = false → RcLt A.in1 s items[j] items2[j] (r j))
    (h : Q (.bool (firstLt e r (decide (items.size < items2.size)) (List.range (min items.size items2.size)))) s) : wpAny (model prog w) A (call (.builtin "tuple.__lt__") [.ref l, .ref b]) Q E s := by
  obtain ⟨⟨cls, dd, data, sl⟩, ho, hc, n, hd⟩ := id hl
  obtain ⟨⟨cls2, dd2, data2, sl2⟩, ho2, hc2, n2, hd2⟩ := id hb
  simp only at hc hd hc2 hd2
  subst hc hd hc2 hd2
  exact call_meets F.slot_tuple_lt ⟨_, ho, rfl⟩ F.entry_tuple_lt (F.args_tuple_lt_2 _ _) (tuple_ltAt l b items items2 n n2 dd dd2 sl sl2 e r) ⟨ho, ho2, he, hr, h⟩
theorem oneLt_tup {xs ys : List PyData} {a b : Value} {as bs : List Addr} {Q : Bool → Shared → Prop} (ra : Reads s.heap a (.tuple xs) as) (rb : Reads s.heap b (.tuple ys) bs) (hal : alikeAll xs ys = true)
    (hu : A.units + min (PyData.tuple xs).depth (PyData.tuple ys).depth < cLine) (hq : Q (dataLt (.tuple xs) (.tuple ys)) s) : wpAny (model prog w) A (oneLt' true a b) Q E s := by
  cases ra with
  | @tuple l o vs n _ as₁ h1 h2 h3 h4 =>
    cases rb with
    | @tuple l' o' vs' n' _ bs₁ k1 k2 k3 k4 =>
      have n1 : vs.size = xs.length := by simpa using ReadsAll.length _ _ _ h4
      have n2 : vs'.size = ys.length := by simpa using ReadsAll.length _ _ _ k4
      rw [dataLt_tuple, ← firstLt_toks xs ys hal, ← n1, ← n2] at hq
      rw [oneLt'_eq]
      simp only [if_true]
      refine wpAny_bind (wpAny_cRoomFor (room_here hu) ?_)
      refine wpAny_bind (wpAny_callSpecialIfBound?_slot (T := "tuple") ⟨_, h1, h2⟩ F.slot_tuple_lt (call_tuple_lt' (e := pairEq xs ys) (r := fun j => dataLt (xs.getD j .none) (ys.getD j .none)) ⟨_, h1, h2, _, h3⟩ ⟨_, k1, k2, _, k3⟩ (fun j j1 j2 => ?_) (fun j j1 j2 hj => ?_) ?_))
      · have := eqAt_alikeAll xs ys A.in1 s vs.toList vs'.toList _ _ h4 k4 hal (room_in hu) j (by simpa using j1) (by simpa using j2)
        simpa using this
      · have := rcLt_alikeAll xs ys A.in1 s vs.toList vs'.toList _ _ h4 k4 hal (room_in hu) j (by simpa using j1) (by simpa using j2) hj
        simpa using this
      · exact wpAny_truthy_bool hq
theorem firsts_any {M : Model} : ∀ (vs : List Value) (ds : List PyData), EachIs (fun v d => ∃ as, Reads s.heap v d as) vs ds → (∀ d ∈ ds, ∃ xs, d = .tuple xs) →
    ∃ fs : List (Option Value), (∀ rest, ds = .tuple [] :: rest → ∃ r, fs = none :: r) ∧ ∀ Q : List (Option Value) → Shared → Prop, Q fs s → wpAny M A (vs.mapM firstOfTuple') Q E s
  | _, _, .nil, _ => ⟨[], fun r e => (by cases e), fun Q h => by rw [List.mapM_nil]; exact wpAny_pure h⟩
  | _, _, .cons (a := v) (b := d) (as := vs) (bs := ds) ⟨as, r⟩ t, ht => by
    obtain ⟨fs, _, f2⟩ := firsts_any (M := M) vs ds t fun d hd => ht d (List.mem_cons_of_mem _ hd)
    obtain ⟨xs, rfl⟩ := ht _ List.mem_cons_self
    cases r with
    | @tuple a o us n _ _ ho hc hd hr =>
      refine ⟨us[0]? :: fs, fun rest e => ?_, fun Q h => ?_⟩
      · cases e
        have e0 : us.toList = [] := by
          generalize us.toList = z at hr
          cases hr
          rfl
        have e1 : us = #[] := by simpa using e0
        subst e1
        exact ⟨fs, rfl⟩
      · rw [List.mapM_cons]
        refine wpAny_bind ?_
        rw [kas_first_eq]
        refine wpAny_bind (Looks.here (show Looks M s.heap (typeOf (.ref a)) o.cls from (Looks.ld ho).andThen .now) ?_)
        rw [hc, if_neg (by first | decide | simp)]
        refine wpAny_bind (listItems_at ho hd (wpAny_pure ?_))
        exact wpAny_bind (f2 _ (wpAny_pure h))
theorem kind_one {M : Model} {vs : List Value} {rest : List PyData} {Q : SortKind → Shared → Prop} (e : EachIs (fun v d => ∃ as, Reads s.heap v d as) vs (.tuple [] :: rest)) (ht : ∀ d ∈ PyData.tuple [] :: rest, ∃ xs, d = .tuple xs) (h : Q oneType' s) :
    wpAny M A (keyKind' vs.toArray) Q E s := by
  obtain ⟨fs, f1, f2⟩ := firsts_any (M := M) (A := A) (E := E) vs _ e ht
  obtain ⟨r, rfl⟩ := f1 rest rfl
  have hT : ∀ v ∈ vs, Looks M s.heap (typeOf v) (.type "tuple") := fun v hv => by
    obtain ⟨d, hd, as, rd⟩ := e.left v hv
    obtain ⟨xs, rfl⟩ := ht d hd
    exact looks_reads rd
  cases e with
  | @cons v₁ _ vs' _ hv t =>
  rw [kat_kind_eq, List.mapM_toArray, map_eq_pure_bind]
  refine wpAny_bind (wpAny_bind (f2 _ (wpAny_pure ?_)))
  rw [if_neg (by simp), if_neg (by simp)]
  rw [oneTypeOnly'_eq, List.mapM_toArray, map_eq_pure_bind]
  refine wpAny_bind (wpAny_bind (wpAny_bind (kas_mapM (r := Value.type "tuple") _ (fun v hv Q' hq => (hT v hv).here hq) (wpAny_pure ?_))))
  have hall : ((List.map (fun _ => Value.type "tuple") (v₁ :: vs')).toArray.all fun x => x == Value.type "tuple") = true := by
    simp only [List.all_toArray, List.all_map, List.all_eq_true]
    intro _ _
    exact beq_self_eq_true _
  have h0 : (List.map (fun _ => Value.type "tuple") (v₁ :: vs')).toArray[0]? = some (.type "tuple") := by simp
  rw [h0]
  simp only [hall, if_true]
  exact wpAny_pure (wpAny_pure h)
theorem sorts0 {vs : List Value} {rest : List PyData} (e : EachIs (fun v d => ∃ as, Reads s.heap v d as) vs (.tuple [] :: rest)) (hal : AllAlike (.tuple [] :: rest)) (ht : ∀ d ∈ PyData.tuple [] :: rest, ∃ xs, d = .tuple xs) (hu : ∀ d, d ∈ PyData.tuple [] :: rest → A.units + d.depth < cLine) :
    SortsAt prog w A s (dataKind s.heap (.tuple [] :: rest)) vs := by
  refine ⟨fun v hv => ?_, oneType', ?_, fun h2 E Q hq => kind_one e ht hq⟩
  · obtain ⟨d, hd, as, r⟩ := e.left v hv
    exact ⟨_, dataKind_some hal hd r⟩
  · intro E x y a b Q ha hb hq
    obtain ⟨d, as, hd, ra, rfl⟩ := dataKind_inv ha
    obtain ⟨d', as', hd', rb, rfl⟩ := dataKind_inv hb
    rw [keyLt'_oneType]
    have hdd := hal d hd d' hd'
    have hroom : A.units + min d.depth d'.depth < cLine := Nat.lt_of_le_of_lt (Nat.add_le_add_left (Nat.min_le_left _ _) _) (hu d hd)
    obtain ⟨xs, rfl⟩ := ht d hd
    obtain ⟨ys, rfl⟩ := ht d' hd'
    exact oneLt_tup ra rb (by simpa [alike] using hdd) hroom hq
theorem sorted_data0 {β : Type} {vs : List Value} {b0 : β} {bs : List β} {enc : β → PyData} {R : Value → β → Prop} {l : Addr} {Q : Value → Shared → Prop} (hl : s.heap.IsList l vs.toArray) (e : EachIs R vs (b0 :: bs)) (er : EachIs (fun v b => ∃ as, Reads s.heap v (enc b) as) vs (b0 :: bs)) (hal : AllAlike ((b0 :: bs).map enc))
    (h0 : enc b0 = .tuple []) (ht : ∀ b ∈ bs, ∃ xs, enc b = .tuple xs) (hL : (b0 :: bs).length ≤ sizeLine) (hu : ∀ b, b ∈ b0 :: bs → A.units + 2 + (enc b).depth < cLine)
    (h : ∀ out, out.length = (b0 :: bs).length → EachIs R out ((b0 :: bs).mergeSort (dataLe false enc)) → Q (.ref (s.heap.objs.size + 1)) { s with heap := sortedAll s.heap vs (List.toArray out) }) :
    wpAny (model prog w) A (call (.builtin "sorted") [.ref l]) Q E s := by
  have er' : EachIs (fun v b => ∃ as, Reads (sortingHeap (copyHeap s.heap vs) (s.heap.objs.size + 1) vs) v (enc b) as) vs (b0 :: bs) := er.mono fun _ _ ⟨as, r⟩ => ⟨as, PyProof.Rows.Reads.keeps (fun _ _ => sorting_copy_old) r⟩
  have ht' : ∀ d ∈ PyData.tuple [] :: bs.map enc, ∃ xs, d = .tuple xs := fun d hd => by
    rcases List.mem_cons.mp hd with rfl | hd
    · exact ⟨[], rfl⟩
    · obtain ⟨b, hb, rfl⟩ := List.mem_map.mp hd
      exact ht b hb
  have em : (b0 :: bs).map enc = .tuple [] :: bs.map enc := by rw [List.map_cons, h0]
  have S : SortsAt prog w A.in1.in1 { s with heap := sortingHeap (copyHeap s.heap vs) (s.heap.objs.size + 1) vs } (dataKind (sortingHeap (copyHeap s.heap vs) (s.heap.objs.size + 1) vs) (.tuple [] :: bs.map enc)) vs := by
    refine sorts0 (s := { s with heap := sortingHeap (copyHeap s.heap vs) (s.heap.objs.size + 1) vs }) ?_ (by rw [← em]; exact hal) ht' ?_
    · rw [← em]; exact each_map (R := fun v d => ∃ as, Reads (sortingHeap (copyHeap s.heap vs) (s.heap.objs.size + 1) vs) v d as) enc er'
    · rw [← em]; exact bound_map hu
  rw [← em] at S
  exact sorted_vals hl S (by rw [e.length]; exact hL) (h _ (by rw [sortVals_length false rfl]; exact e.length) (sortVals_data false e er' hal))
end
end DL

set_option Elab.async false
set_option linter.all false
set_option maxRecDepth 100000
set_option maxHeartbeats 4000000
/-! DLd: subscripts, slices, calls of built-ins. -/
namespace DL
open PySem L2
variable {K : PySem.W.Frag}
section
variable {X : Cx} {a b c : Expr} {wa wb wc : WE} {pos : Pos}
/-! ### subscripts -/
def ixD : D → D → Mp → DQ → Prop := fun x y M Q =>
  (∃ ds i d, seqD M x ds ∧ y = .int i ∧ atI ds i = some d ∧ Q d M) ∨
  (∃ z i c, x = .str z ∧ y = .int i ∧ z.length ≤ sizeLine ∧ atI z.cps.toList i = some c ∧ Q (.str ⟨#[c]⟩) M) ∨
  (∃ p ns i n, x = .ref p ∧ M p = some (.scr ns) ∧ y = .int i ∧ atI ns i = some n ∧ Q (.int n) M)
theorem Reps.atI {H : Hp} {ds : List D} {vs : List V} {i : Int} {d : D} (r : Reps K H ds vs) (h : L2.atI ds i = some d) : ∃ v, L2.atI vs i = some v ∧ Rep K H d v := by
  unfold L2.atI at h ⊢
  rw [← r.length]
  cases e : ixN ds.length i with
  | none => rw [e] at h; cases h
  | some j =>
    rw [e] at h
    exact r.get h
theorem ixd : IxR X (rD X.K ixD) := fun value slice pins s σ H x y v u Q I rx ry h hs => by
  obtain ⟨dx, dy, M, F, Q0, r1, r2, m, fr, h, g⟩ := h
  rcases h with ⟨ds, i, d, sq, rfl, e, hq⟩ | ⟨z, i, c, rfl, rfl, hz, e, hq⟩ | ⟨p, ns, i, n, rfl, e0, rfl, e, hq⟩
  · cases r2
    rcases sq with rfl | ⟨p, rfl, e0⟩
    · unfold Rep at r1
      obtain ⟨p, vs, rfl, q1, p1⟩ := r1
      obtain ⟨w, e1, rw⟩ := p1.atI e
      exact ix_tup value slice pins s σ H _ _ v u Q I rx ry ⟨p, vs, i, w, rfl, rfl, q1, e1, g _ M _ H hq (.refl _) fr.frm m rw⟩ hs
    · cases r1
      obtain ⟨vs, q1, p1⟩ := m _ _ e0
      obtain ⟨w, e1, rw⟩ := p1.atI e
      exact ix_list value slice pins s σ H _ _ v u Q I rx ry ⟨p, vs, i, w, rfl, rfl, .of q1, e1, g _ M _ H hq (.refl _) fr.frm m rw⟩ hs
  · cases r1; cases r2
    exact ix_str value slice pins s σ H _ _ v u Q I rx ry ⟨z, i, c, rfl, rfl, hz, e, g _ M _ H hq (.refl _) fr.frm m rfl⟩ hs
  · cases r1; cases r2
    obtain ⟨o, q1⟩ := m _ _ e0
    have p1 : Reps X.K H (ns.map D.int) (ns.map V.int) := .ints ns
    have e' : L2.atI (ns.map D.int) i = some (.int n) := by
      unfold L2.atI at e ⊢
      rw [List.length_map]
      cases q : ixN ns.length i with
      | none => rw [q] at e; cases e
      | some j => rw [q] at e; show (ns.map D.int)[j]? = _; rw [List.getElem?_map, show ns[j]? = some n from e]; rfl
    obtain ⟨w, e1, rw⟩ := p1.atI e'
    exact ix_list value slice pins s σ H _ _ v u Q I rx ry ⟨p, _, i, w, rfl, rfl, .inl (.inr ⟨o, q1⟩), e1, g _ M _ H hq (.refl _) fr.frm m rw⟩ hs
theorem pd_ix (ha : PE X a (tD X.K wa)) (hb : PE X b (tD X.K wb)) (hs : PlainIx b) : PE X (.Subscript a b pos) (tD X.K (w2 ixD wa wb)) :=
  (pe_ix ixd ha hb hs).imp fun _ _ _ h => two h
/-! ### slices -/
abbrev WO := Ro → Mp → (Option Int → Mp → Prop) → Prop
def GoO (K : PySem.W.Frag) (F : Addr → Prop) (H : Hp) (Q0 : Option Int → Mp → Prop) (Q : Option Int → Hp → Prop) : Prop := ∀ o M' H', Q0 o M' → TupS K H H' → Frm F H H' M' → RepM K H' M' → Q o H'
def tDO (K : PySem.W.Frag) (w : WO) : TO := fun σ H Q => ∃ ρ M F Q0, Stt K H σ ρ M F ∧ w ρ M Q0 ∧ GoO K F H Q0 Q
theorem _root_.L2.PO.imp {e : Option Expr} {t t' : TO} (h : PO X e t) (i : ∀ σ H Q, t' σ H Q → t σ H Q) : PO X e t' := ⟨fun pins s σ H Q I q => h.run pins s σ H Q I (i σ H Q q)⟩
def wO0 : WO := fun _ M Q => Q none M
def wO1 (w : WE) : WO := fun ρ M Q => w ρ M fun d M1 => ∃ i, d = .int i ∧ Q (some i) M1
theorem pdo_none : PO X none (tDO X.K wO0) := po_none.imp fun σ H Q => by
  rintro ⟨ρ, M, F, Q0, s, q, g⟩
  exact g _ M H q (.refl _) s.fr.frm s.rm
theorem pdo_some (h : PE X a (tD X.K wa)) : PO X (some a) (tDO X.K (wO1 wa)) := (po_some h).imp fun σ H Q => by
  rintro ⟨ρ, M, F, Q0, s, q, g⟩
  refine ⟨ρ, M, F, _, s, q, fun x M1 v H1 q1 t1 f1 r1 p1 => ?_⟩
  obtain ⟨i, rfl, q1⟩ := q1
  exact ⟨i, p1, g _ M1 H1 q1 t1 f1 r1⟩
def cutL {α : Type} (xs : List α) (lo hi : Option Int) : List α := (xs.drop (HT.sIx xs.length 0 lo)).take (HT.sIx xs.length xs.length hi - HT.sIx xs.length 0 lo)
def slD : D → Option Int → Option Int → Mp → DQ → Prop := fun x lo hi M Q => match x with
  | .tup ds => Q (.tup (cutL ds lo hi)) M
  | .str z => z.length ≤ sizeLine ∧ Q (.str (cutS z lo hi)) M
  | .ref p => ∃ ds, M p = some (.lst ds) ∧ ∀ l, M l = none → Q (.ref l) (up M l (.lst (cutL ds lo hi)))
  | _ => False
def rDS (K : PySem.W.Frag) (f : D → Option Int → Option Int → Mp → DQ → Prop) : V → Option Int → Option Int → Hp → VK → Prop := fun x lo hi H Q => ∃ dx M F Q0, Rep K H dx x ∧ RepM K H M ∧ FrOk F H M ∧ f dx lo hi M Q0 ∧ Go K F H Q0 Q
theorem Reps.cut {H : Hp} {ds : List D} {vs : List V} (r : Reps K H ds vs) (lo hi : Option Int) : Reps K H (cutL ds lo hi) (cutV vs lo hi) := by
  unfold cutL cutV
  rw [r.length]
  exact (r.drop _).take _
theorem cut_all {α : Type} {xs : List α} {lo hi : Option Int} (h : HT.sIx xs.length 0 lo = 0 ∧ HT.sIx xs.length xs.length hi = xs.length) : cutL xs lo hi = xs := by
  unfold cutL
  rw [h.1, h.2, List.drop_zero, Nat.sub_zero, List.take_length]
theorem sld : SlR X (rDS X.K slD) := fun pins s σ H x v vl vu lo hi sl Q I rx hs pl pu h => by
  obtain ⟨dx, M, F, Q0, r1, m, fr, h, g⟩ := h
  cases dx <;> (try exact h.elim)
  · cases r1
    exact sl_str pins s σ H _ v vl vu lo hi sl Q I rx hs pl pu ⟨_, rfl, h.1, g _ M _ H h.2 (.refl _) fr.frm m rfl⟩
  · cases r1
    obtain ⟨ds, e0, h⟩ := h
    obtain ⟨vs, q1, p1⟩ := m _ _ e0
    exact sl_list pins s σ H _ v vl vu lo hi sl Q I rx hs pl pu ⟨_, vs, rfl, .of q1, fun p hp => g _ _ _ _ (h p (m.none hp)) (.new hp) (fr.new hp _) (m.new hp ⟨_, upd_same, (p1.cut lo hi).stay (.new hp)⟩) rfl⟩
  · unfold Rep at r1
    obtain ⟨p, vs, rfl, q1, p1⟩ := r1
    have el := p1.length
    refine sl_tupA pins s σ H _ v vl vu lo hi sl Q I rx hs pl pu ⟨p, vs, rfl, q1, fun e => ?_, fun _ l hl => ?_⟩
    · refine g _ M _ H h (.refl _) fr.frm m ?_
      rw [cut_all (by rw [el]; exact e)]
      unfold Rep
      exact ⟨p, vs, rfl, q1, p1⟩
    · refine g _ M _ _ h (.new hl) (fr.more hl) (m.more hl) ?_
      unfold Rep
      exact ⟨l, _, rfl, .of upd_same, (p1.cut lo hi).stay (.new hl)⟩
def wSl (wa : WE) (wl wh : WO) : WE := fun ρ M Q => wa ρ M fun x M1 => wl ρ M1 fun l M2 => wh ρ M2 fun h M3 => slD x l h M3 Q
theorem pd_slice {lo hi : Option Expr} {wl wh : WO} {p2 : Pos} (ha : PE X a (tD X.K wa)) (hl : PO X lo (tDO X.K wl)) (hh : PO X hi (tDO X.K wh)) : PE X (.Subscript a (.Slice lo hi none p2) pos) (tD X.K (wSl wa wl wh)) :=
  (pe_slice sld ha hl hh).imp fun σ H Q => by
    rintro ⟨ρ, M, F, Q0, s, q, g⟩
    refine ⟨ρ, M, F, _, s, q, fun x M1 v H1 q1 t1 f1 r1 p1 => ?_⟩
    refine ⟨ρ, M1, F, _, s.next t1 f1 r1, q1, fun l M2 H2 q2 t2 f2 r2 => ?_⟩
    refine ⟨ρ, M2, F, _, (s.next t1 f1 r1).next t2 f2 r2, q2, fun h M3 H3 q3 t3 f3 r3 => ?_⟩
    exact ⟨x, M3, F, Q0, p1.stay (t2.trans t3), r3, ((s.fr.next f1).next f2).next f3, q3, ((g.from t1 f1).from t2 f2).from t3 f3⟩
/-! ### built-ins -/
theorem _root_.L2.CallR.lift {f : Value} {r : List V → Hp → VK → Prop} {S : Spec} (h : CallR X f r) (i : ∀ ds M F H Q0 Q vs, Reps X.K H ds vs → RepM X.K H M → FrOk F H M → S ds M Q0 → Go X.K F H Q0 Q → r vs H Q) : CallR X f (rDL X.K S) :=
  fun pins s σ H xs us Q I rv hh => by
    obtain ⟨ds, M, F, Q0, r1, m, fr, hs, g⟩ := hh
    exact h pins s σ H xs us Q I rv (i ds M F H Q0 Q xs r1 m fr hs g)
theorem Reps.one {H : Hp} {d : D} {vs : List V} (r : Reps K H [d] vs) : ∃ v, vs = [v] ∧ Rep K H d v := by
  unfold Reps at r
  obtain ⟨v, q, rfl, r1, r2⟩ := r
  unfold Reps at r2
  subst r2
  exact ⟨v, rfl, r1⟩
theorem Reps.two {H : Hp} {d e : D} {vs : List V} (r : Reps K H [d, e] vs) : ∃ v u, vs = [v, u] ∧ Rep K H d v ∧ Rep K H e u := by
  unfold Reps at r
  obtain ⟨v, q, rfl, r1, r2⟩ := r
  obtain ⟨u, rfl, r3⟩ := r2.one
  exact ⟨v, u, rfl, r1, r3⟩
def lenOf (d : D) (M : Mp) (n : Nat) : Prop := match d with
  | .tup ds => n = ds.length
  | .str z => z.length ≤ sizeLine ∧ n = z.length
  | .ref a => (∃ ds, M a = some (.lst ds) ∧ n = ds.length) ∨ ∃ ns, M a = some (.scr ns) ∧ n = ns.length
  | _ => False
def lenS : Spec := fun ds M Q => ∃ d n, ds = [d] ∧ lenOf d M n ∧ Q (.int (n : Nat)) M
theorem cd_len : CallR X (.builtin "len") (rDL X.K lenS) := call_len.lift fun ds M F H Q0 Q vs r m fr h g => by
  obtain ⟨d, n, rfl, h, q⟩ := h
  obtain ⟨v, rfl, rr⟩ := r.one
  refine ⟨v, n, rfl, ?_, g _ M _ H q (.refl _) fr.frm m rfl⟩
  cases d <;> (try exact h.elim)
  · cases rr; exact h
  · cases rr
    rcases h with ⟨ds, e, h⟩ | ⟨ns, e, h⟩
    · obtain ⟨vs, q1, p1⟩ := m _ _ e
      exact .inl ⟨vs, .of q1, by rw [h, p1.length]⟩
    · obtain ⟨o, q1⟩ := m _ _ e
      exact .inl ⟨_, .inl (.inr ⟨o, q1⟩), by rw [h, List.length_map]⟩
  · unfold Rep at rr
    obtain ⟨p, vs, rfl, q1, p1⟩ := rr
    exact .inr ⟨vs, q1, by rw [← p1.length]; exact h⟩
def tupleS : Spec := fun ds M Q => ∃ d xs, ds = [d] ∧ seqD M d xs ∧ Q (.tup xs) M
theorem cd_tuple : CallR X (.type "tuple") (rDL X.K tupleS) := call_tuple_of.lift fun ds M F H Q0 Q vs r m fr h g => by
  obtain ⟨d, xs, rfl, h, q⟩ := h
  obtain ⟨v, rfl, rr⟩ := r.one
  rcases h with rfl | ⟨a, rfl, e⟩
  · have r0 := rr
    unfold Rep at rr
    obtain ⟨p, vs, rfl, q1, p1⟩ := rr
    exact ⟨p, vs, rfl, .inr ⟨q1, g _ M _ H q (.refl _) fr.frm m r0⟩⟩
  · cases rr
    obtain ⟨vs, q1, p1⟩ := m _ _ e
    refine ⟨a, vs, rfl, .inl ⟨.of q1, fun l hl => ?_⟩⟩
    refine g _ M _ _ q (.new hl) (fr.more hl) (m.more hl) ?_
    unfold Rep
    exact ⟨l, vs, rfl, .of upd_same, p1.stay (.new hl)⟩
def listS0 : Spec := fun ds M Q => ∃ d xs, ds = [d] ∧ seqD M d xs ∧ ∀ p, M p = none → Q (.ref p) (up M p (.lst xs))
theorem cd_list0 : CallR X (.type "list") (rDL X.K listS0) := call_list_of.lift fun ds M F H Q0 Q vs r m fr h g => by
  obtain ⟨d, xs, rfl, h, q⟩ := h
  obtain ⟨v, rfl, rr⟩ := r.one
  rcases h with rfl | ⟨a, rfl, e⟩
  · unfold Rep at rr
    obtain ⟨p, vs, rfl, q1, p1⟩ := rr
    exact ⟨p, vs, rfl, .inr q1, fun l hl => g _ _ _ _ (q l (m.none hl)) (.new hl) (fr.new hl _) (m.new hl ⟨_, upd_same, p1.stay (.new hl)⟩) rfl⟩
  · cases rr
    obtain ⟨vs, q1, p1⟩ := m _ _ e
    exact ⟨a, vs, rfl, .inl (.of q1), fun l hl => g _ _ _ _ (q l (m.none hl)) (.new hl) (fr.new hl _) (m.new hl ⟨_, upd_same, p1.stay (.new hl)⟩) rfl⟩
def strL (x : Str) : List D := x.cps.toList.map fun c => .str ⟨#[c]⟩
def listT : Spec := fun ds M Q => ∃ x, ds = [.str x] ∧ x.length ≤ sizeLine ∧ ∀ p, M p = none → Q (.ref p) (up M p (.lst (strL x)))
theorem reps_strs {H : Hp} : ∀ cs : List Nat, Reps K H (cs.map fun c => D.str ⟨#[c]⟩) (cs.map fun c => V.str ⟨#[c]⟩)
  | [] => .nil
  | c :: cs => .cons rfl (reps_strs cs)
theorem vals_signs {x : Str} : ∀ (us : List Value) (cs : List Nat), us.length = cs.length → (∀ (j : Nat) (v : Value), us[j]? = some v → ∃ (c : Nat) (u : Tok), cs[j]? = some c ∧ v = Value.str ⟨#[c]⟩ u) → Vals (cs.map fun c => V.str ⟨#[c]⟩) us
  | [], [], _, _ => .nil
  | [], _ :: _, h, _ => by cases h
  | _ :: _, [], h, _ => by cases h
  | v :: us, c :: cs, h, hs => by
    obtain ⟨c', u, e, rfl⟩ := hs 0 v rfl
    cases e
    exact .cons ⟨u, rfl⟩ (vals_signs (x := x) us cs (by simpa using h) fun j v hv => hs (j + 1) v hv)
theorem cd_listT (hc : X.calm = true) : CallR X (.type "list") (rDL X.K listT) := fun pins s σ H xs us Q I rv hh => by
  obtain ⟨ds, M, F, Q0, r1, m, fr, ⟨x, rfl, hz, q⟩, g⟩ := hh
  obtain ⟨v, rfl, rr⟩ := r1.one
  cases rr
  obtain ⟨u, rfl, t, rfl⟩ := vals1 rv
  refine call_list_str (I.ok.hd hc) x t (hn := hz) fun h' tk acc' c' hk hS' hacc => ?_
  have hn : H s.heap.objs.size = none := I.hok.fresh (Nat.le_refl _)
  have hv : Vals (x.cps.toList.map fun c => V.str ⟨#[c]⟩) acc'.toList := by
    refine vals_signs (x := x) _ _ (by simp [hacc.1]) fun j v hv => ?_
    obtain ⟨c, u, hc, rfl⟩ := hacc.2 j v (by simpa using hv)
    exact ⟨c, u, by simpa using hc, rfl⟩
  refine ⟨.ref s.heap.objs.size, upd H s.heap.objs.size (.lst (x.cps.toList.map fun c => V.str ⟨#[c]⟩)), I.laid (t' := tk) hk (Nat.le_refl _) ?_, rfl, g _ _ _ _ (q _ (m.none hn)) (.new hn) (fr.new hn _) (m.new hn ⟨_, upd_same, reps_strs _⟩) rfl⟩
  exact ⟨by rw [List.length_map, Array.length_toList]; exact hz, acc'.toList, c', hv, by simpa using hS'⟩
def listS : Spec := fun ds M Q => listS0 ds M Q ∨ listT ds M Q
theorem cd_list (hc : X.calm = true) : CallR X (.type "list") (rDL X.K listS) := fun pins s σ H xs us Q I rv hh => by
  obtain ⟨ds, M, F, Q0, r1, m, fr, h, g⟩ := hh
  rcases h with h | h
  · exact cd_list0 pins s σ H xs us Q I rv ⟨ds, M, F, Q0, r1, m, fr, h, g⟩
  · exact cd_listT hc pins s σ H xs us Q I rv ⟨ds, M, F, Q0, r1, m, fr, h, g⟩
theorem Reps.bls {H : Hp} : ∀ {bs : List Bool} {vs : List V}, Reps K H (bs.map D.bl) vs → vs = bs.map V.bl
  | [], _, h => by unfold Reps at h; exact h
  | b :: bs, _, h => by
    unfold Reps at h
    obtain ⟨v, r, rfl, h1, h2⟩ := h
    cases h1
    rw [Reps.bls h2]
    rfl
theorem Reps.ints' {H : Hp} : ∀ {bs : List Int} {vs : List V}, Reps K H (bs.map D.int) vs → vs = bs.map V.int
  | [], _, h => by unfold Reps at h; exact h
  | b :: bs, _, h => by
    unfold Reps at h
    obtain ⟨v, r, rfl, h1, h2⟩ := h
    cases h1
    rw [Reps.ints' h2]
    rfl
def allS : Spec := fun ds M Q => ∃ (a : Addr) (bs : List Bool), ds = [.ref a] ∧ M a = some (.lst (bs.map D.bl)) ∧ Q (.bl (bs.all id)) M
def anyS : Spec := fun ds M Q => ∃ (a : Addr) (bs : List Bool), ds = [.ref a] ∧ M a = some (.lst (bs.map D.bl)) ∧ Q (.bl (bs.any id)) M
def sumS : Spec := fun ds M Q => ∃ (a : Addr) (ns : List Int), ds = [.ref a] ∧ M a = some (.lst (ns.map D.int)) ∧ Q (.int ns.sum) M
theorem cd_all (hc : X.calm = true) : CallR X (.builtin "all") (rDL X.K allS) := (cr_all hc).lift fun ds M F H Q0 Q vs r m fr h g => by
  obtain ⟨a, bs, rfl, e, q⟩ := h
  obtain ⟨v, rfl, rr⟩ := r.one
  cases rr
  obtain ⟨vs, q1, p1⟩ := m _ _ e
  rw [p1.bls] at q1
  exact ⟨a, bs, rfl, .of q1, g _ M _ H q (.refl _) fr.frm m rfl⟩
theorem cd_any (hc : X.calm = true) : CallR X (.builtin "any") (rDL X.K anyS) := (cr_any hc).lift fun ds M F H Q0 Q vs r m fr h g => by
  obtain ⟨a, bs, rfl, e, q⟩ := h
  obtain ⟨v, rfl, rr⟩ := r.one
  cases rr
  obtain ⟨vs, q1, p1⟩ := m _ _ e
  rw [p1.bls] at q1
  exact ⟨a, bs, rfl, .of q1, g _ M _ H q (.refl _) fr.frm m rfl⟩
theorem cd_sum (hc : X.calm = true) : CallR X (.builtin "sum") (rDL X.K sumS) := (cr_sum hc).lift fun ds M F H Q0 Q vs r m fr h g => by
  obtain ⟨a, bs, rfl, e, q⟩ := h
  obtain ⟨v, rfl, rr⟩ := r.one
  cases rr
  obtain ⟨vs, q1, p1⟩ := m _ _ e
  rw [p1.ints'] at q1
  exact ⟨a, bs, rfl, .of q1, g _ M _ H q (.refl _) fr.frm m rfl⟩
def maxS : Spec := fun ds M Q => ∃ i j, ds = [.int i, .int j] ∧ Q (.int (if j > i then j else i)) M
def minS : Spec := fun ds M Q => ∃ i j, ds = [.int i, .int j] ∧ Q (.int (if j < i then j else i)) M
theorem cd_max (hc : X.calm = true) : CallR X (.builtin "max") (rDL X.K maxS) := (call_max2 hc).lift fun ds M F H Q0 Q vs r m fr h g => by
  obtain ⟨i, j, rfl, q⟩ := h
  obtain ⟨v, u, rfl, rr, rr'⟩ := r.two
  cases rr; cases rr'
  exact ⟨i, j, rfl, g _ M _ H q (.refl _) fr.frm m rfl⟩
theorem cd_min (hc : X.calm = true) : CallR X (.builtin "min") (rDL X.K minS) := (call_min2 hc).lift fun ds M F H Q0 Q vs r m fr h g => by
  obtain ⟨i, j, rfl, q⟩ := h
  obtain ⟨v, u, rfl, rr, rr'⟩ := r.two
  cases rr; cases rr'
  exact ⟨i, j, rfl, g _ M _ H q (.refl _) fr.frm m rfl⟩
def absS : Spec := fun ds M Q => ∃ i, ds = [.int i] ∧ Q (.int (if i < 0 then -i else i)) M
theorem cd_abs : CallR X (.builtin "abs") (rDL X.K absS) := call_abs.lift fun ds M F H Q0 Q vs r m fr h g => by
  obtain ⟨i, rfl, q⟩ := h
  obtain ⟨v, rfl, rr⟩ := r.one
  obtain rfl : v = V.int i := rr
  exact ⟨i, rfl, g _ M _ H q (.refl _) fr.frm m rfl⟩
def intS : Spec := fun ds M Q => (∃ i, ds = [.int i] ∧ Q (.int i) M) ∨ ∃ k : Bool, ds = [.bl k] ∧ Q (.int (if k then 1 else 0)) M
theorem cd_int : CallR X (.type "int") (rDL X.K intS) := call_int1.lift fun ds M F H Q0 Q vs r m fr h g => by
  rcases h with ⟨i, rfl, q⟩ | ⟨i, rfl, q⟩
  · obtain ⟨v, rfl, rr⟩ := r.one
    obtain rfl : v = V.int i := rr
    exact .inl ⟨i, rfl, g _ M _ H q (.refl _) fr.frm m rfl⟩
  · obtain ⟨v, rfl, rr⟩ := r.one
    obtain rfl : v = V.bl i := rr
    exact .inr ⟨i, rfl, g _ M _ H q (.refl _) fr.frm m rfl⟩
/-! ### sorted -/
def sortD (ds : List D) : List D := ds.mergeSort (PySem.W.dataLe false py)
def Sort0 (xs : List D) : Prop := PySem.W.Sortable (xs.map py) ∨ ((∃ rest, xs = .tup [] :: rest) ∧ ∀ x ∈ xs, ∃ ys, x = .tup ys)
def sortedS : Spec := fun ds M Q => ∃ (a : Addr) (xs : List D), ds = [.ref a] ∧ M a = some (.lst xs) ∧ plains xs = true ∧ PySem.W.AllAlike (xs.map py) ∧ Sort0 xs ∧ (∀ x ∈ xs, (py x).depth ≤ 60) ∧ ∀ p, M p = none → Q (.ref p) (up M p (.lst (sortD xs)))
theorem each_of {pins : List (Addr × Obj)} {σ : L2.St} {H : Hp} {s : Shared} (I : Inv X pins σ H s) : ∀ {xs : List D} {vs : List V} {us : List Value}, Reps X.K H xs vs → Vals vs us → plains xs = true →
    PySem.W.EachIs (fun (u : Value) (d : D) => ∃ v, RelV v u ∧ Rep X.K H d v) us xs ∧ PySem.W.EachIs (fun (u : Value) (d : D) => ∃ as, Reads s.heap u (py d) as) us xs
  | [], _, _, r, rv, _ => by
    unfold Reps at r; subst r
    cases rv
    exact ⟨.nil, .nil⟩
  | x :: xs, _, _, r, rv, hp => by
    unfold Reps at r
    obtain ⟨v, vs, rfl, r1, r2⟩ := r
    unfold plains at hp
    rw [Bool.and_eq_true] at hp
    cases rv with
    | cons q1 q2 =>
      obtain ⟨h1, h2⟩ := each_of I r2 q2 hp.2
      have m0 : RepM X.K H (fun _ => none) := fun a o e => by cases e
      exact ⟨.cons ⟨v, q1, r1⟩ h1, .cons (Dp.reads I _ v _ ((Dat.plain hp.1).dp m0 r1) q1) h2⟩
theorem of_each {H : Hp} : ∀ {us : List Value} {xs : List D}, PySem.W.EachIs (fun (u : Value) (d : D) => ∃ v, RelV v u ∧ Rep K H d v) us xs → ∃ vs, Vals vs us ∧ Reps K H xs vs
  | _, _, .nil => ⟨[], .nil, .nil⟩
  | _, _, .cons ⟨v, q, r⟩ e => by
    obtain ⟨vs, h1, h2⟩ := of_each e
    exact ⟨v :: vs, .cons q h1, .cons r h2⟩
theorem cd_sorted (hu : Ru X) : CallR X (.builtin "sorted") (rDL X.K sortedS) := fun pins s σ H xs us Q I rv hh => by
  obtain ⟨ds, M, F, Q0, r1, m, fr, ⟨a, xs, rfl, e, hp, al, so, dp, q⟩, g⟩ := hh
  obtain ⟨v, rfl, rr⟩ := r1.one
  cases rr
  obtain ⟨vs, q1, p1⟩ := m _ _ e
  obtain ⟨u, rfl, ru⟩ := vals1 rv
  obtain rfl : u = Value.ref a := ru
  obtain ⟨its, rl, hl, hz⟩ := I.list (SqL.of (K := X.K) q1)
  obtain ⟨h1, h2⟩ := each_of I p1 rl hp
  suffices fin : _ by
    rcases so with so | ⟨⟨rest, e0⟩, so⟩
    · exact PySem.W.sorted_data (R := fun (u : Value) (d : D) => ∃ v, RelV v u ∧ Rep X.K H d v) (enc := py) hl.isList h1 h2 al so (by rw [p1.length]; exact hz) (fun b hb => by have := hu; have := dp b hb; omega) fin
    · subst e0
      exact sorted_data0 (R := fun (u : Value) (d : D) => ∃ v, RelV v u ∧ Rep X.K H d v) (enc := py) hl.isList h1 h2 al (by simp [py, pys]) (fun b hb => by obtain ⟨ys, rfl⟩ := so b (List.mem_cons_of_mem _ hb); exact ⟨pys ys, by unfold py; rfl⟩) (by rw [p1.length]; exact hz) (fun b hb => by have := hu; have := dp b hb; omega) fin
  intro out hlen ho
  obtain ⟨vs', w1, w2⟩ := of_each ho
  have hn : H (s.heap.objs.size + 1) = none := I.hok.fresh (by omega)
  have ez : out.length ≤ sizeLine := by rw [hlen, p1.length]; exact hz
  refine ⟨.ref (s.heap.objs.size + 1), upd H (s.heap.objs.size + 1) (.lst vs'), ?_, rfl, g _ _ _ _ (q _ (m.none hn)) (.new hn) (fr.new hn _) (m.new hn ⟨vs', upd_same, w2.stay (.new hn)⟩) rfl⟩
  obtain ⟨c, hc⟩ := PyProof.Rows.sortedAll_at s.heap its out.toArray
  refine I.laid (t' := s.toks) (fun b o e => ?_) (by omega) ⟨by rw [w1.length]; exact ez, out, c, w1, hc⟩
  exact PyProof.Rows.sortedAll_old e
end
end DL

set_option Elab.async false
set_option linter.all false
set_option maxRecDepth 100000
set_option maxHeartbeats 4000000
/-! DLe: targets, what is walked, comprehensions, loops. -/
namespace DL
open PySem L2 RZ
variable {K : PySem.W.Frag}
/-! ### targets -/
mutual
inductive Tg where
  | name (i : Nat)
  | tup (ts : Tgs)
inductive Tgs where
  | nil
  | cons (t : Tg) (ts : Tgs)
end
mutual
def Tg.asn : Tg → D → Ro → Option Ro
  | .name i, d, ρ => some (ρ.set i (some d))
  | .tup ts, .tup ds, ρ => ts.asn ds ρ
  | _, _, _ => none
def Tgs.asn : Tgs → List D → Ro → Option Ro
  | .nil, [], ρ => some ρ
  | .cons t ts, d :: ds, ρ => match t.asn d ρ with
    | some ρ' => ts.asn ds ρ'
    | none => none
  | _, _, _ => none
end
mutual
def Tg.slots : Tg → List Nat
  | .name i => [i]
  | .tup ts => ts.slots
def Tgs.slots : Tgs → List Nat
  | .nil => []
  | .cons t ts => t.slots ++ ts.slots
end
/-- alike but at some places -/
def Off (vs : List Nat) (σ σ' : St) : Prop := σ'.length = σ.length ∧ ∀ j, j ∉ vs → σ'[j]? = σ[j]?
theorem Off.refl (vs : List Nat) (σ : St) : Off vs σ σ := ⟨rfl, fun _ _ => rfl⟩
theorem Off.trans {vs : List Nat} {σ σ1 σ2 : St} (a : Off vs σ σ1) (b : Off vs σ1 σ2) : Off vs σ σ2 := ⟨b.1.trans a.1, fun j h => (b.2 j h).trans (a.2 j h)⟩
theorem Off.mono {vs us : List Nat} {σ σ1 : St} (a : Off vs σ σ1) (h : ∀ j ∈ vs, j ∈ us) : Off us σ σ1 := ⟨a.1, fun j hj => a.2 j fun z => hj (h j z)⟩
theorem Off.set (σ : St) (i : Nat) (v : Option V) : Off [i] σ (σ.set i v) := ⟨List.length_set, fun j h => by rw [List.getElem?_set_ne]; intro e; exact h (by simp [e])⟩
/-- a target's reading -/
def gD (K : PySem.W.Frag) (t : Tg) : TG := fun v σ H Q => ∃ d ρ ρ' M F, Rep K H d v ∧ Stt K H σ ρ M F ∧ t.asn d ρ = some ρ' ∧ ∀ σ', Off t.slots σ σ' → Stt K H σ' ρ' M F → Q σ' H
def gDs (K : PySem.W.Frag) (t : Tgs) : TGs := fun vs σ H Q => ∃ ds ρ ρ' M F, Reps K H ds vs ∧ Stt K H σ ρ M F ∧ t.asn ds ρ = some ρ' ∧ ∀ σ', Off t.slots σ σ' → Stt K H σ' ρ' M F → Q σ' H
theorem _root_.L2.PG.imp {X : Cx} {e : Expr} {t t' : TG} (h : PG X e t) (i : ∀ v σ H Q, t' v σ H Q → t v σ H Q) : PG X e t' := ⟨fun pins s σ H v u Q I r q => h.run pins s σ H v u Q I r (i v σ H Q q)⟩
theorem _root_.L2.PGs.imp {X : Cx} {e : List Expr} {t t' : TGs} (h : PGs X e t) (i : ∀ v σ H Q, t' v σ H Q → t v σ H Q) : PGs X e t' := ⟨fun pins s σ H v u Q I r q => h.run pins s σ H v u Q I r (i v σ H Q q)⟩
section
variable {X : Cx} {a b c : Expr} {wa wb wc : WE} {pos : Pos}
theorem pgd_name {i : Nat} {e : Expr} (h : PG X e (gName i)) : PG X e (gD X.K (.name i)) := h.imp fun v σ H Q => by
  rintro ⟨d, ρ, ρ', M, F, r, s, e, q⟩
  unfold Tg.asn at e
  cases e
  exact q _ (by unfold Tg.slots; exact Off.set σ i _) (s.set r i)
theorem pgds_nil : PGs X [] (gDs X.K .nil) := pgs_nil.imp fun v σ H Q => by
  rintro ⟨ds, ρ, ρ', M, F, r, s, e, q⟩
  cases ds with
  | nil =>
    unfold Reps at r
    unfold Tgs.asn at e
    cases e
    exact ⟨r, q σ (.refl _ _) s⟩
  | cons d ds => unfold Tgs.asn at e; cases e
theorem pgds_cons {e : Expr} {es : List Expr} {t : Tg} {ts : Tgs} (h1 : PG X e (gD X.K t)) (h2 : PGs X es (gDs X.K ts)) (hs : (assignEach (e :: es) X.env).map (·.2) = assign e X.env :: (assignEach es X.env).map (·.2)) :
    PGs X (e :: es) (gDs X.K (.cons t ts)) := (pgs_cons h1 h2 hs).imp fun v σ H Q => by
  rintro ⟨ds, ρ, ρ', M, F, r, s, e, q⟩
  cases ds with
  | nil => unfold Tgs.asn at e; cases e
  | cons d ds =>
    unfold Reps at r
    obtain ⟨v, vs, rfl, r1, r2⟩ := r
    unfold Tgs.asn at e
    cases e1 : t.asn d ρ with
    | none => rw [e1] at e; cases e
    | some ρ1 =>
      rw [e1] at e
      refine ⟨v, vs, rfl, d, ρ, ρ1, M, F, r1, s, e1, fun σ1 o1 s1 => ⟨ds, ρ1, ρ', M, F, r2, s1, e, fun σ2 o2 s2 => q σ2 ?_ s2⟩⟩
      unfold Tgs.slots
      exact (o1.mono fun j h => List.mem_append_left _ h).trans (o2.mono fun j h => List.mem_append_right _ h)
def Tgs.len : Tgs → Nat
  | .nil => 0
  | .cons _ ts => ts.len + 1
theorem Tgs.asn_len : ∀ {ts : Tgs} {ds : List D} {ρ ρ' : Ro}, ts.asn ds ρ = some ρ' → ds.length = ts.len
  | .nil, [], _, _, _ => rfl
  | .nil, _ :: _, _, _, e => by unfold Tgs.asn at e; cases e
  | .cons t ts, [], _, _, e => by unfold Tgs.asn at e; cases e
  | .cons t ts, d :: ds, ρ, _, e => by
    unfold Tgs.asn at e
    cases e1 : t.asn d ρ with
    | none => rw [e1] at e; cases e
    | some ρ1 =>
      rw [e1] at e
      show ds.length + 1 = ts.len + 1
      rw [Tgs.asn_len e]
theorem pgd_tup {es : List Expr} {k : Nat} {ts : Tgs} (hc : X.calm = true) (h : PGs X es (gDs X.K ts)) (hn : (assignEach es X.env).length = ts.len) (hst : (assignEach es X.env).findIdx? (·.1) = none) : PG X (.Tuple es k pos) (gD X.K (.tup ts)) :=
  (pg_tup hc h hn hst).imp fun v σ H Q => by
    rintro ⟨d, ρ, ρ', M, F, r, s, e, q⟩
    cases d <;> (try (unfold Tg.asn at e; cases e; done))
    unfold Tg.asn at e
    unfold Rep at r
    obtain ⟨p, vs, rfl, s1, r1⟩ := r
    exact ⟨p, vs, rfl, s1, by rw [← r1.length]; exact Tgs.asn_len e, _, ρ, ρ', M, F, r1, s, e, fun σ' o' s' => q σ' (by unfold Tg.slots; exact o') s'⟩
/-! ### what is walked -/
structure DIt where
  items : List D
  keep : Mp → Prop
def ItOk (K : PySem.W.Frag) (J : It) (T : DIt) (H0 : Hp) : Prop := ∀ (H : Hp) (M : Mp), TupS K H0 H → RepM K H M → T.keep M → ∀ i : Nat,
  (i < T.items.length → J.go i H ∧ ∀ x H', J.yld i H x H' → ∃ d, T.items[i]? = some d ∧ TupS K H H' ∧ (∀ a o, H a = some o → H' a = some o) ∧ RepM K H' M ∧ Rep K H' d x) ∧ (T.items.length = i → J.stop i H)
abbrev WI := Ro → Mp → (DIt → Mp → Prop) → Prop
def iD (K : PySem.W.Frag) (w : WI) : TI := fun σ H R => ∃ ρ M F Q0, Stt K H σ ρ M F ∧ w ρ M Q0 ∧ ∀ T M' J H', Q0 T M' → TupS K H H' → Frm F H H' M' → RepM K H' M' → ItOk K J T H' → R J H'
theorem _root_.L2.PI.imp {X : Cx} {tg e : Expr} {t t' : TI} (h : PI X tg e t) (i : ∀ σ H Q, t' σ H Q → t σ H Q) : PI X tg e t' := ⟨fun pins s σ H Q I q => h.run pins s σ H Q I (i σ H Q q)⟩
theorem Frm.of_same {F : Addr → Prop} {H H' : Hp} {M : Mp} (f : FrOk F H M) (k : ∀ a o, H a = some o → H' a = some o) : Frm F H H' M := fun a h => by
  obtain ⟨⟨o, e⟩, n⟩ := f a h
  exact ⟨by rw [e, k a o e], n⟩
/-- a list or a tuple -/
def iSeq (K : PySem.W.Frag) (tl : TE) : TI := fun σ H R => tl σ H fun x H1 => ∃ a, x = .ref a ∧ (((∃ xs, SqL K H1 a xs) ∧ R (Itl K a) H1) ∨ ((∃ xs, SqT K H1 a xs) ∧ R (Itt K a) H1))
theorem pi_seq {tg l : Expr} {tl : TE} (hl : PE X l tl) : PI X tg l (iSeq X.K tl) := by
  refine ⟨fun pins s σ H R I h => ?_⟩
  refine thn (hl.run pins s σ H _ I h) fun v s1 ⟨x, H1, I1, r1, q1⟩ => ?_
  obtain ⟨a, e, q1⟩ := q1
  subst e
  cases r1
  rcases q1 with ⟨⟨xs, hq⟩, q⟩ | ⟨⟨xs, hq⟩, q⟩
  · obtain ⟨its, rv, p, hz⟩ := I1.list hq
    refine wpAny_pyIter_list p.isList ?_
    refine ⟨s1.heap.objs.size, [s1.heap.objs.size], _, _, H1, rfl, I1.kept (t' := s1.toks) fun b o e => Heap.get?_push_of_some _ e, turn_list a _, ⟨_, Heap.get?_push_size _ rfl, rfl, rfl⟩, fun b hb => ?_, q⟩
    have e : b = s1.heap.objs.size := by simpa using hb
    subst e
    exact I1.fpOk (Nat.le_refl _) (I1.hok.fresh (Nat.le_refl _))
  · obtain ⟨its, rv, p, hz⟩ := I1.tuple hq
    refine wpAny_pyIter_tuple (show s1.heap.IsTuple a its.toArray from p) ?_
    refine ⟨s1.heap.objs.size, [s1.heap.objs.size], _, _, H1, rfl, I1.kept (t' := s1.toks) fun b o e => Heap.get?_push_of_some _ e, turn_tuple a _, ⟨_, Heap.get?_push_size _ rfl, rfl, rfl⟩, fun b hb => ?_, q⟩
    have e : b = s1.heap.objs.size := by simpa using hb
    subst e
    exact I1.fpOk (Nat.le_refl _) (I1.hok.fresh (Nat.le_refl _))
/-- the walk of a list or tuple, as the data stand -/
def seqT (M : Mp) (d : D) (T : DIt) : Prop := (∃ ds, d = .tup ds ∧ T = ⟨ds, fun _ => True⟩) ∨ (∃ p ds, d = .ref p ∧ M p = some (.lst ds) ∧ T = ⟨ds, fun M => M p = some (.lst ds)⟩)
def wISeq (w : WE) : WI := fun ρ M Q => w ρ M fun d M1 => ∃ T, seqT M1 d T ∧ Q T M1
theorem itok_l {p : Addr} {ds : List D} {H0 : Hp} : ItOk K (Itl K p) ⟨ds, fun M => M p = some (.lst ds)⟩ H0 := fun H M t m k i => by
  obtain ⟨vs, e, r⟩ := m _ _ k
  have el := r.length
  refine ⟨fun hi => ⟨⟨vs, vs[i]'(by rw [← el]; exact hi), .of e, List.getElem?_eq_getElem _⟩, fun x H' hy => ?_⟩, fun hi => ⟨vs, .of e, by rw [← el]; exact Nat.le_of_eq hi⟩⟩
  obtain ⟨rfl, hy⟩ := hy
  obtain ⟨d, e1, e2⟩ := r.get' (hy vs (.of e))
  exact ⟨d, e1, .refl _, fun _ _ h => h, m, e2⟩
theorem itok_t {p : Addr} {ds : List D} {vs : List V} {H0 : Hp} (h0 : SqT K H0 p vs) (r0 : Reps K H0 ds vs) : ItOk K (Itt K p) ⟨ds, fun _ => True⟩ H0 := fun H M t m k i => by
  have e := t _ _ h0
  have r := r0.stay t
  have el := r.length
  refine ⟨fun hi => ⟨⟨vs, vs[i]'(by rw [← el]; exact hi), e, List.getElem?_eq_getElem _⟩, fun x H' hy => ?_⟩, fun hi => ⟨vs, e, by rw [← el]; exact Nat.le_of_eq hi⟩⟩
  obtain ⟨rfl, hy⟩ := hy
  obtain ⟨d, e1, e2⟩ := r.get' (hy vs e)
  exact ⟨d, e1, .refl _, fun _ _ h => h, m, e2⟩
theorem pid_seq {tg : Expr} (h : PE X a (tD X.K wa)) : PI X tg a (iD X.K (wISeq wa)) := (pi_seq h).imp fun σ H R => by
  rintro ⟨ρ, M, F, Q0, s, q, g⟩
  refine ⟨ρ, M, F, _, s, q, fun x M1 v H1 q1 t1 f1 r1 p1 => ?_⟩
  obtain ⟨T, hT, q1⟩ := q1
  rcases hT with ⟨ds, rfl, rfl⟩ | ⟨p, ds, rfl, e, rfl⟩
  · unfold Rep at p1
    obtain ⟨p, vs, rfl, s1, p2⟩ := p1
    exact ⟨p, rfl, .inr ⟨⟨vs, s1⟩, g _ M1 _ H1 q1 t1 f1 r1 (itok_t s1 p2)⟩⟩
  · cases p1
    obtain ⟨vs, e1, p2⟩ := r1 _ _ e
    exact ⟨p, rfl, .inl ⟨⟨vs, .of e1⟩, g _ M1 _ H1 q1 t1 f1 r1 itok_l⟩⟩
/-- range -/
def rngI (lo hi : Int) : List D := (List.range (hi - lo).toNat).map fun i => .int (lo + (i : Nat))
theorem itok_r {lo hi : Int} {H0 : Hp} : ItOk K (Itr lo (hi - lo).toNat) ⟨rngI lo hi, fun _ => True⟩ H0 := fun H M t m k i => by
  have el : (rngI lo hi).length = (hi - lo).toNat := by unfold rngI; rw [List.length_map, List.length_range]
  refine ⟨fun hi' => ⟨by rw [show DIt.items _ = rngI lo hi from rfl, el] at hi'; exact hi', fun x H' hy => ?_⟩, fun hi' => by rw [show DIt.items _ = rngI lo hi from rfl, el] at hi'; exact Nat.le_of_eq hi'⟩
  obtain ⟨rfl, rfl⟩ := hy
  rw [show DIt.items _ = rngI lo hi from rfl, el] at hi'
  refine ⟨.int (lo + (i : Nat)), ?_, .refl _, fun _ _ h => h, m, rfl⟩
  show (rngI lo hi)[i]? = _
  unfold rngI
  rw [List.getElem?_map, List.getElem?_range hi']
  rfl
def small62 (i : Int) : Prop := -(2 ^ 62) ≤ i ∧ i < 2 ^ 62
def wIR1 (w : WE) : WI := fun ρ M Q => w ρ M fun d M1 => ∃ i, d = .int i ∧ small62 i ∧ Q ⟨rngI 0 i, fun _ => True⟩ M1
def wIR2 (wa wb : WE) : WI := fun ρ M Q => wa ρ M fun d M1 => wb ρ M1 fun e M2 => ∃ i j, d = .int i ∧ e = .int j ∧ small62 i ∧ small62 j ∧ Q ⟨rngI i j, fun _ => True⟩ M2
theorem arg1 {w : WE} {ρ : Ro} {M : Mp} {P : D → Mp → Prop} (h : w ρ M P) : wCons w wNil ρ M (fun ds M1 => ∃ d, ds = [d] ∧ P d M1) := by
  show w ρ M (fun d M1 => ∃ d', [d] = [d'] ∧ P d' M1)
  have e : (fun d M1 => ∃ d', [d] = [d'] ∧ P d' M1) = P := by
    funext d M1
    apply propext
    constructor
    · rintro ⟨d', e, h⟩
      cases e
      exact h
    · exact fun h => ⟨d, rfl, h⟩
  rw [e]
  exact h
theorem arg2 {w u : WE} {ρ : Ro} {M : Mp} {P : D → D → Mp → Prop} (h : w ρ M fun d M1 => u ρ M1 fun e M2 => P d e M2) : wCons w (wCons u wNil) ρ M (fun ds M1 => ∃ d e, ds = [d, e] ∧ P d e M1) := by
  show w ρ M (fun d M1 => u ρ M1 fun e M2 => ∃ d' e', [d, e] = [d', e'] ∧ P d' e' M2)
  have q : (fun d M1 => u ρ M1 fun e M2 => ∃ d' e', [d, e] = [d', e'] ∧ P d' e' M2) = fun d M1 => u ρ M1 fun e M2 => P d e M2 := by
    funext d M1
    congr 1
    funext e M2
    apply propext
    constructor
    · rintro ⟨d', e', z, h⟩
      cases z
      exact h
    · exact fun h => ⟨d, e, rfl, h⟩
  rw [q]
  exact h
theorem pid_r1 {tg : Expr} {p : Pos} (h : PE X a (tD X.K wa)) (hg : Gl X "range") (hm : X.mg "range" = none) (hs : starEach [a] X.env = [(false, eval a X.env)]) : PI X tg (.Call (.Name "range" p) [a] [] pos) (iD X.K (wIR1 wa)) :=
  (pi_range1 hg hm (pda_cons h pda_nil hs) hs).imp fun σ H R => by
    rintro ⟨ρ, M, F, Q0, s, q, g⟩
    refine ⟨ρ, M, F, _, s, arg1 q, fun ds M1 vs H1 q1 t1 f1 r1 p1 => ?_⟩
    obtain ⟨d, rfl, i, rfl, s1, q1⟩ := q1
    obtain ⟨v, rfl, p1'⟩ := p1.one
    cases p1'
    have e : (i - 0).toNat = i.toNat := by rw [Int.sub_zero]
    refine ⟨i, rfl, s1.1, s1.2, g _ M1 _ H1 q1 t1 f1 r1 ?_⟩
    rw [← e]
    exact itok_r
theorem pid_r2 {tg : Expr} {p : Pos} (h : PE X a (tD X.K wa)) (h' : PE X b (tD X.K wb)) (hg : Gl X "range") (hm : X.mg "range" = none) (hs : starEach [a, b] X.env = [(false, eval a X.env), (false, eval b X.env)]) (hs2 : starEach [b] X.env = [(false, eval b X.env)]) : PI X tg (.Call (.Name "range" p) [a, b] [] pos) (iD X.K (wIR2 wa wb)) :=
  (pi_range2 hg hm (pda_cons h (pda_cons h' pda_nil hs2) (by rw [hs, hs2])) hs hs2).imp fun σ H R => by
    rintro ⟨ρ, M, F, Q0, s, q, g⟩
    refine ⟨ρ, M, F, _, s, arg2 q, fun ds M1 vs H1 q1 t1 f1 r1 p1 => ?_⟩
    obtain ⟨d, e, rfl, i, j, rfl, rfl, s1, s2, q1⟩ := q1
    obtain ⟨v, u, rfl, p1', p2'⟩ := p1.two
    cases p1'; cases p2'
    exact ⟨i, j, rfl, ⟨s1.1, s1.2, s2.1, s2.2⟩, g _ M1 _ H1 q1 t1 f1 r1 itok_r⟩
/-- zip of two lists, of two tuples -/
def zipI (xs ys : List D) : List D := List.zipWith (fun x y => .tup [x, y]) xs ys
def zipT (M : Mp) (d e : D) (T : DIt) : Prop := (∃ xs ys, d = .tup xs ∧ e = .tup ys ∧ T = ⟨zipI xs ys, fun _ => True⟩) ∨
  (∃ p q xs ys, d = .ref p ∧ e = .ref q ∧ M p = some (.lst xs) ∧ M q = some (.lst ys) ∧ T = ⟨zipI xs ys, fun M => M p = some (.lst xs) ∧ M q = some (.lst ys)⟩)
def wIZip (wa wb : WE) : WI := fun ρ M Q => wa ρ M fun d M1 => wb ρ M1 fun e M2 => ∃ T, zipT M2 d e T ∧ Q T M2
theorem zipI_len (xs ys : List D) : (zipI xs ys).length = min xs.length ys.length := by unfold zipI; rw [List.length_zipWith]
theorem zipI_get {xs ys : List D} {i : Nat} {x y : D} (h1 : xs[i]? = some x) (h2 : ys[i]? = some y) : (zipI xs ys)[i]? = some (.tup [x, y]) := by
  unfold zipI
  rw [List.getElem?_zipWith, h1, h2]
theorem yields {H H' : Hp} {M : Mp} {T : Addr} {v1 v2 : V} {d1 d2 : D} (m : RepM K H M) (hT : H T = none) (e : H' = upd H T (.tup [v1, v2])) (r1 : Rep K H d1 v1) (r2 : Rep K H d2 v2) :
    TupS K H H' ∧ (∀ a o, H a = some o → H' a = some o) ∧ RepM K H' M ∧ Rep K H' (.tup [d1, d2]) (.ref T) := by
  subst e
  refine ⟨.new hT, fun a o h => by rw [upd_ne (ne_of_none h hT)]; exact h, m.more hT, ?_⟩
  unfold Rep
  exact ⟨T, _, rfl, .of upd_same, .cons (r1.stay (.new hT)) (.cons (r2.stay (.new hT)) .nil)⟩
theorem itok_zl {p q : Addr} {xs ys : List D} {H0 : Hp} : ItOk K (Itz K p q) ⟨zipI xs ys, fun M => M p = some (.lst xs) ∧ M q = some (.lst ys)⟩ H0 := fun H M t m k i => by
  obtain ⟨vs, e, r⟩ := m _ _ k.1
  obtain ⟨us, e', r'⟩ := m _ _ k.2
  have el := r.length
  have el' := r'.length
  have ez : (zipI xs ys).length = min vs.length us.length := by rw [zipI_len, el, el']
  refine ⟨fun hi => ?_, fun hi => ⟨vs, us, .of e, .of e', ?_⟩⟩
  · have hi : i < min vs.length us.length := by rw [← ez]; exact hi
    have h1 : vs[i]? = some (vs[i]'(by omega)) := List.getElem?_eq_getElem _
    have h2 : us[i]? = some (us[i]'(by omega)) := List.getElem?_eq_getElem _
    refine ⟨⟨vs, us, _, _, .of e, .of e', h1, h2⟩, fun x H' hy => ?_⟩
    obtain ⟨T, v1, v2, rfl, hT, eH, g1, g2⟩ := hy
    obtain ⟨d1, a1, b1⟩ := r.get' (g1 vs (.of e))
    obtain ⟨d2, a2, b2⟩ := r'.get' (g2 us (.of e'))
    exact ⟨_, zipI_get a1 a2, yields m hT eH b1 b2⟩
  · have hi : min vs.length us.length ≤ i := by rw [← ez]; exact Nat.le_of_eq hi
    omega
theorem itok_zt {p q : Addr} {xs ys : List D} {vs us : List V} {H0 : Hp} (h0 : SqT K H0 p vs) (r0 : Reps K H0 xs vs) (h0' : SqT K H0 q us) (r0' : Reps K H0 ys us) : ItOk K (ItzT K p q) ⟨zipI xs ys, fun _ => True⟩ H0 := fun H M t m k i => by
  have e := t _ _ h0
  have r := r0.stay t
  have e' := t _ _ h0'
  have r' := r0'.stay t
  have el := r.length
  have el' := r'.length
  have ez : (zipI xs ys).length = min vs.length us.length := by rw [zipI_len, el, el']
  refine ⟨fun hi => ?_, fun hi => ⟨vs, us, e, e', ?_⟩⟩
  · have hi : i < min vs.length us.length := by rw [← ez]; exact hi
    have h1 : vs[i]? = some (vs[i]'(by omega)) := List.getElem?_eq_getElem _
    have h2 : us[i]? = some (us[i]'(by omega)) := List.getElem?_eq_getElem _
    refine ⟨⟨vs, us, _, _, e, e', h1, h2⟩, fun x H' hy => ?_⟩
    obtain ⟨T, v1, v2, rfl, hT, eH, g1, g2⟩ := hy
    obtain ⟨d1, a1, b1⟩ := r.get' (g1 vs e)
    obtain ⟨d2, a2, b2⟩ := r'.get' (g2 us e')
    exact ⟨_, zipI_get a1 a2, yields m hT eH b1 b2⟩
  · have hi : min vs.length us.length ≤ i := by rw [← ez]; exact Nat.le_of_eq hi
    omega
theorem pid_zip {elts : List Expr} {kk : Nat} {tpos p : Pos} (h : PE X a (tD X.K wa)) (h' : PE X b (tD X.K wb)) (hg : Gl X "zip") (hm : X.mg "zip" = none) (hs : starEach [a, b] X.env = (false, eval a X.env) :: starEach [b] X.env) (hs2 : starEach [b] X.env = [(false, eval b X.env)]) :
    PI X (.Tuple elts kk tpos) (.Call (.Name "zip" p) [a, b] [] pos) (iD X.K (wIZip wa wb)) :=
  (pi_zipA hg hm (pda_cons h (pda_cons h' pda_nil hs2) hs) hs (by rw [hs2]; rfl)).imp fun σ H R => by
    rintro ⟨ρ, M, F, Q0, s, q, g⟩
    refine ⟨ρ, M, F, _, s, arg2 q, fun ds M1 vs H1 q1 t1 f1 r1 p1 => ?_⟩
    obtain ⟨d, e, rfl, T, hT, q1⟩ := q1
    obtain ⟨v, u, rfl, p1', p2'⟩ := p1.two
    rcases hT with ⟨xs, ys, rfl, rfl, rfl⟩ | ⟨p, q, xs, ys, rfl, rfl, e1, e2, rfl⟩
    · unfold Rep at p1' p2'
      obtain ⟨p, vs, rfl, s1, p3⟩ := p1'
      obtain ⟨q, us, rfl, s2, p4⟩ := p2'
      exact ⟨p, q, vs, us, rfl, .inr ⟨s1, s2, g _ M1 _ H1 q1 t1 f1 r1 (itok_zt s1 p3 s2 p4)⟩⟩
    · cases p1'; cases p2'
      obtain ⟨vs, w1, _⟩ := r1 _ _ e1
      obtain ⟨us, w2, _⟩ := r1 _ _ e2
      exact ⟨p, q, vs, us, rfl, .inl ⟨.of w1, .of w2, g _ M1 _ H1 q1 t1 f1 r1 itok_zl⟩⟩
/-- the signs of a text -/
def strI (x : Str) : List D := x.cps.toList.map fun c => .str ⟨#[c]⟩
def wIStr (w : WE) : WI := fun ρ M Q => w ρ M fun d M1 => ∃ x, d = .str x ∧ Q ⟨strI x, fun _ => True⟩ M1
theorem itok_s {x : Str} {H0 : Hp} : ItOk K (Its x) ⟨strI x, fun _ => True⟩ H0 := fun H M t m k i => by
  have el : (strI x).length = x.cps.size := by unfold strI; rw [List.length_map, Array.length_toList]
  refine ⟨fun hi => ⟨by rw [show DIt.items _ = strI x from rfl, el] at hi; exact hi, fun v H' hy => ?_⟩, fun hi => by rw [show DIt.items _ = strI x from rfl, el] at hi; exact Nat.le_of_eq hi⟩
  obtain ⟨rfl, c, hc, rfl⟩ := hy
  refine ⟨.str ⟨#[c]⟩, ?_, .refl _, fun _ _ h => h, m, rfl⟩
  show (strI x)[i]? = _
  unfold strI
  rw [List.getElem?_map, Array.getElem?_toList, hc]
  rfl
theorem pid_str {tg : Expr} (h : PE X a (tD X.K wa)) : PI X tg a (iD X.K (wIStr wa)) := (pi_str h).imp fun σ H R => by
  rintro ⟨ρ, M, F, Q0, s, q, g⟩
  refine ⟨ρ, M, F, _, s, q, fun x M1 v H1 q1 t1 f1 r1 p1 => ?_⟩
  obtain ⟨x, rfl, q1⟩ := q1
  cases p1
  exact ⟨x, rfl, g _ M1 _ H1 q1 t1 f1 r1 itok_s⟩
end
end DL

set_option Elab.async false
set_option linter.all false
set_option maxRecDepth 100000
set_option maxHeartbeats 4000000
/-! DLe2: enumerate of a list or a tuple. -/
namespace DL
open PySem L2 RZ
open PyProof.Rows (Call_)
open AutoSeq1 (wpAny_loadPart')
theorem meets_enumT (l : Addr) (items : Array Value) (n : Nat) (dct : Option Addr) (sl : Array (Option Value)) :
    Meets (Builtin.«enumerate.__new__» ⟨[.type "enumerate", .ref l], []⟩) (fun _ R s => s.heap.get? l = some { cls := .type "tuple", dict := dct, data := .seq items n, slots := sl } ∧
      R (.ok (.ret (.ref (s.heap.push { cls := .type "tuple_iterator", data := .fields #[.ref l, .int 0 0] }).objs.size)))
        { s with heap := (s.heap.push { cls := .type "tuple_iterator", data := .fields #[.ref l, .int 0 0] }).push { cls := .type "enumerate", data := .fields #[.none, .bool false, .ref s.heap.objs.size, rawInt 0, .none, .none] } }) :=
  .of_wp fun prog w A R s h => by
    obtain ⟨hp, g, d, tk, os⟩ := s; obtain ⟨hl, h⟩ := h
    have hsub := sub_enumerate
    have hL : Heap.IsTuple (Shared.heap ⟨hp, g, d, tk, os⟩) l items := ⟨_, hl, rfl, n, rfl⟩
    wp_walk using wpAny_loadPart' hl
    refine wpAny_stack_any fun st => wpAny_pure ?_
    split
    · rename_i c _ _ _ _ _
      cases (c == Value.type "enumerate")
      · wp_walk using wpAny_loadPart' hl, wpAny_pyIter_tuple hL
        exact ⟨_, rfl, h⟩
      · wp_walk using wpAny_loadPart' hl, wpAny_pyIter_tuple hL
        exact ⟨_, rfl, h⟩
    · wp_walk using wpAny_loadPart' hl, wpAny_pyIter_tuple hL
      exact ⟨_, rfl, h⟩
section
variable {prog : Program} {w : World} {A : Around} {E : Value → Shared → Prop} {s : Shared}
theorem call_enumT {l : Addr} {items : Array Value} {Q : Value → Shared → Prop} (hL : s.heap.IsTuple l items)
    (h : ∀ h', IsEnum h' (s.heap.objs.size + 1) s.heap.objs.size 0 .none → h'.IsTupleIter s.heap.objs.size l 0 → h'.objs.size = s.heap.objs.size + 2 →
      (∀ b o, s.heap.get? b = some o → h'.get? b = some o) → Q (.ref (s.heap.objs.size + 1)) { s with heap := h' }) :
    wpAny (model prog w) A (call (.type "enumerate") [.ref l]) Q E s := by
  obtain ⟨⟨c, dct, dt, sl⟩, hl, hc, n, hd⟩ := hL
  replace hc : c = .type "tuple" := hc
  replace hd : dt = .seq items n := hd
  subst hc hd
  refine callType_new F.called_enumerate (by decide) (F.typeCall_enumerate_1 _) (F.newCall_enumerate_1 _) (fun obj => F.args_object_init_2 obj _) F.entry_enumerate_new
    (meets_enumT l items n dct sl) ⟨hl, ?_⟩
  have hz : (s.heap.push { cls := .type "tuple_iterator", data := .fields #[.ref l, .int 0 0] }).objs.size = s.heap.objs.size + 1 := Heap.size_push ..
  show _ ∧ _
  rw [hz]
  have he : IsEnum ((s.heap.push { cls := .type "tuple_iterator", data := .fields #[.ref l, .int 0 0] }).push
      { cls := .type "enumerate", data := .fields #[.none, .bool false, .ref s.heap.objs.size, rawInt 0, .none, .none] }) (s.heap.objs.size + 1) s.heap.objs.size 0 .none := by
    have := Heap.get?_push_size (s.heap.push { cls := .type "tuple_iterator", data := .fields #[.ref l, .int 0 0] })
      (o := { cls := .type "enumerate", data := .fields #[.none, .bool false, .ref s.heap.objs.size, rawInt 0, .none, .none] }) rfl
    rw [hz] at this; exact this
  refine ⟨⟨_, he, rfl⟩, h _ he ⟨_, Heap.get?_push_of_some _ (Heap.get?_push_size _ rfl), rfl, rfl⟩ (by rw [Heap.size_push, hz]) fun b o x => Heap.get?_push_of_some _ (Heap.get?_push_of_some _ x)⟩
end
theorem drawsT {prog : Program} {w : World} {A : Around} (hh : A.handled = none) (it l : Addr) (hne : l ≠ it) (items : Array Value) :
    Draws prog w A it [it, l] items.size (fun i v => items[i]? = some v) (fun i h => h.IsTupleIter it l i ∧ h.IsTuple l items) where
  live := fun _ _ st => let ⟨o, ho, _⟩ := st.1; ⟨o, ho⟩
  frame := fun _ _ _ st hk => ⟨let ⟨o, ho, r⟩ := st.1; ⟨o, hk it (by simp) o ho, r⟩, let ⟨o, ho, r⟩ := st.2; ⟨o, hk l (by simp) o ho, r⟩⟩
  item := fun i s Q E hi st hQ => by
    refine nextOf_tuple_item st.1 st.2 (x := items[i]) (by simp [hi]) fun h' hit' hs' => ?_
    exact hQ _ h' s.toks (by simp [hi]) ⟨hit', st.2.extBut hs'.extBut hne⟩ hs'
  done := fun s Q E st hE => nextOf_tuple_end hh st.1 st.2 (by simp) hE
def IteT (K : PySem.W.Frag) (a : Addr) : It :=
  ⟨fun i H => ∃ (xs : List V) (x : V), SqT K H a xs ∧ xs[i]? = some x, fun i H v H' => ∃ T x, v = .ref T ∧ H T = none ∧ H' = upd H T (.tup [.int (i : Nat), x]) ∧ ∀ xs, SqT K H a xs → xs[i]? = some x, fun i H => ∃ xs : List V, SqT K H a xs ∧ xs.length = i⟩
theorem turn_enumT {P : Program} {w : World} {K : PySem.W.Frag} {elts : List Expr} {kk : Nat} {tpos : Pos} (a e it : Addr) :
    Turn P w K (.Tuple elts kk tpos) (IteT K a) [e, it] e (fun i h => (∃ old, IsEnum h e it ((i : Nat) : Int) old) ∧ h.IsTupleIter it a i ∧ e ≠ it ∧ a ≠ it ∧ a ≠ e) where
  mem := by simp
  obj := fun i h st b hb => by
    obtain ⟨⟨old, he⟩, ⟨o, ho, hc, hd⟩, _⟩ := st
    have e' : b = e ∨ b = it := by simpa using hb
    rcases e' with z | z
    · rw [z]; exact ⟨_, he, fun v q => nomatch q⟩
    · rw [z]; exact ⟨o, ho, fun v q => by rw [hd] at q; cases q⟩
  keep := fun i h h' st k => let ⟨⟨old, he⟩, ⟨o, ho, r⟩, hne⟩ := st; ⟨⟨old, k e (by simp) _ he⟩, ⟨o, k it (by simp) o ho, r⟩, hne⟩
  item := by
    intro X hP hw hK hc i pins s σ H E I hf st hg
    subst hP hw hK
    obtain ⟨⟨old, he⟩, hit, hne, hai, hae⟩ := st
    obtain ⟨xs, x, hq, hx⟩ := hg
    obtain ⟨its, rv, p, hz⟩ := I.tuple hq
    obtain ⟨u, hu, ru⟩ := rv.get hx
    have hel : e < s.heap.objs.size := Heap.lt_size he
    have hil : it < s.heap.objs.size := by obtain ⟨_, q, _⟩ := hit; exact Heap.lt_size q
    have hlt : i < its.toArray.size := by
      obtain ⟨h1, _⟩ := List.getElem?_eq_some_iff.mp hu
      simpa using h1
    refine wpAny_pyNext_enum_itemD (drawsT (prog := X.prog) (w := X.w) (A := X.A.in1) (I.ok.hd hc) it a hai its.toArray) he ⟨hit, p⟩ hlt hne (by simp [hne, Ne.symm hae]) fun y h' tk hy ho hit' hT hsz hk => ?_
    obtain rfl : y = u := by
      have e1 : its.toArray[i]? = some u := by simpa using hu
      rw [hy] at e1
      exact Option.some.inj e1
    refine ⟨_, rfl, wpAny_letOwnedTupleGo_enum (s := { s with heap := h', toks := tk + 1 }) ho fun h'' he' sb => ?_⟩
    have hT2 : h''.get? s.heap.objs.size = some { cls := .type "tuple", data := .seq #[.int i tk, y] } := (sb.2 _ (Nat.ne_of_gt hel)).trans hT
    have new : ObjOk X.prog X.w (upd H s.heap.objs.size (.tup [.int (i : Nat), x])) h'' s.heap.objs.size (.tup [.int (i : Nat), x]) :=
      ⟨by show 2 ≤ sizeLine; decide, [.int i tk, y], .cons ⟨_, rfl⟩ (.cons ru .nil), ⟨_, hT2, rfl, _, rfl⟩⟩
    have I1 : Inv X pins σ (upd H s.heap.objs.size (.tup [.int (i : Nat), x])) { s with heap := h'', toks := tk + 1 } :=
      I.turnedNew (ch := [e, it]) (fun b ob hb q => (sb.2 b (fun z => hb (by simp [z]))).trans (hk b ob (fun z => hb (by simp [z])) (fun z => hb (by simp [z])) q)) hf (Nat.le_refl _) new
    refine ⟨.ref s.heap.objs.size, _, I1, rfl, ⟨_, x, rfl, I.hok.fresh (Nat.le_refl _), rfl, fun ys hy => by rw [I.tuple_inj hy hq]; exact hx⟩, ⟨⟨y, ?_⟩, ?_, hne, hai, hae⟩, fun b hb => ?_⟩
    · have e1 : ((i + 1 : Nat) : Int) = (i : Int) + 1 := by omega
      rw [e1]; exact he'
    · obtain ⟨o, ho2, r⟩ := hit'.1
      exact ⟨o, (sb.2 it (Ne.symm hne)).trans ho2, r⟩
    · have hb' : b < s.heap.objs.size := by
        have e' : b = e ∨ b = it := by simpa using hb
        rcases e' with z | z
        · rw [z]; exact hel
        · rw [z]; exact hil
      rw [upd_ne (Nat.ne_of_lt hb')]
      exact (hf b hb).1
  done := by
    intro X hP hw hK hc i pins s σ H E I hf st hg
    subst hP hw hK
    obtain ⟨⟨old, he⟩, hit, hne, hai, hae⟩ := st
    obtain ⟨xs, hq, hx⟩ := hg
    obtain ⟨its, rv, p, hz⟩ := I.tuple hq
    obtain ⟨f0, f1, f2, f3, f4, f5⟩ := hf it (by simp)
    have hl := rv.length
    have hi : i = its.toArray.size := by simp; omega
    refine wpAny_pyNext_enum_endD (drawsT (prog := X.prog) (w := X.w) (A := X.A.in1) (I.ok.hd hc) it a hai its.toArray) he (by rw [← hi]; exact ⟨hit, p⟩) fun h' eb => ⟨rfl, I.turned (t' := s.toks) (fun b o hb q => eb b o hb q) f0 f1 f3 f4 f5⟩
  self := fun A i s Q E st h => let ⟨⟨_, he⟩, _⟩ := st; wpAny_pyIter_enum he h
section
variable {K : PySem.W.Frag} {X : Cx} {a : Expr} {wa : WE} {pos : Pos}
def iEnumA (K : PySem.W.Frag) (ta : TA) : TI := fun σ H R => ta σ H fun vs H1 => ∃ a xs, vs = [.ref a] ∧ ((SqL K H1 a xs ∧ R (Ite K a) H1) ∨ (SqT K H1 a xs ∧ R (IteT K a) H1))
theorem pi_enumA {e : Expr} {ta : TA} {p tpos : Pos} {elts : List Expr} {kk : Nat} (hg : Gl X "enumerate") (hm : X.mg "enumerate" = none) (ha : PA X [e] ta) (hs : starEach [e] X.env = [(false, eval e X.env)]) :
    PI X (.Tuple elts kk tpos) (.Call (.Name "enumerate" p) [e] [] pos) (iEnumA X.K ta) := by
  refine ⟨fun pins s σ H R I h => ?_⟩
  refine Call_ (ld_blt I hg hm (show bootBuiltins "enumerate" = some (.type "enumerate") by decide +kernel) (PyProof.Rows.callWith_type1 (thn (ha.run pos pins s σ H _ I h) fun us s1 ⟨vs, H1, I1, r1, q1⟩ => ?_) hs rfl))
  obtain ⟨a, xs, ex, q1⟩ := q1
  subst ex
  cases r1 with
  | cons r rr =>
    cases rr
    cases r
    have hle : ∀ b, b = s1.heap.objs.size + 1 ∨ b = s1.heap.objs.size → s1.heap.objs.size ≤ b := fun b e' => by
      rcases e' with z | z
      · rw [z]; exact Nat.le_add_right _ _
      · rw [z]; exact Nat.le_refl _
    rcases q1 with ⟨hq, q⟩ | ⟨hq, q⟩
    · obtain ⟨its, rv, p', hz⟩ := I1.list hq
      refine call_enumerate_list p'.isList fun h' he hit hsz hk => wpAny_pyIter_enum he ?_
      have I2 : Inv X pins σ H1 { s1 with heap := h' } := I1.kept (t' := s1.toks) hk
      refine ⟨s1.heap.objs.size + 1, [s1.heap.objs.size + 1, s1.heap.objs.size], _, _, H1, rfl, I2, turn_enum a (s1.heap.objs.size + 1) s1.heap.objs.size, ⟨⟨.none, he⟩, hit, Nat.succ_ne_self _⟩, fun b hb => ?_, q⟩
      exact I1.fpOk (hle b (by simpa using hb)) (I1.hok.fresh (hle b (by simpa using hb)))
    · obtain ⟨its, rv, p', hz⟩ := I1.tuple hq
      have hal : a < s1.heap.objs.size := by obtain ⟨o, ho, _⟩ := p'; exact Heap.lt_size ho
      refine call_enumT (show s1.heap.IsTuple a its.toArray from p') fun h' he hit hsz hk => wpAny_pyIter_enum he ?_
      have I2 : Inv X pins σ H1 { s1 with heap := h' } := I1.kept (t' := s1.toks) hk
      refine ⟨s1.heap.objs.size + 1, [s1.heap.objs.size + 1, s1.heap.objs.size], _, _, H1, rfl, I2, turn_enumT a (s1.heap.objs.size + 1) s1.heap.objs.size, ⟨⟨.none, he⟩, hit, Nat.succ_ne_self _, Nat.ne_of_lt hal, Nat.ne_of_lt (Nat.lt_succ_of_lt hal)⟩, fun b hb => ?_, q⟩
      exact I1.fpOk (hle b (by simpa using hb)) (I1.hok.fresh (hle b (by simpa using hb)))
/-- the things with their places -/
def enI : Nat → List D → List D
  | _, [] => []
  | n, d :: ds => .tup [.int (n : Nat), d] :: enI (n + 1) ds
theorem enI_len : ∀ (n : Nat) (ds : List D), (enI n ds).length = ds.length
  | _, [] => rfl
  | n, d :: ds => by unfold enI; rw [List.length_cons, List.length_cons, enI_len]
theorem enI_get : ∀ (n : Nat) (ds : List D) (i : Nat) (d : D), ds[i]? = some d → (enI n ds)[i]? = some (.tup [.int ((n + i : Nat) : Int), d])
  | _, [], _, _, h => by simp at h
  | n, e :: ds, 0, d, h => by
    simp at h; subst h
    unfold enI
    simp
  | n, e :: ds, i + 1, d, h => by
    unfold enI
    rw [List.getElem?_cons_succ, enI_get (n + 1) ds i d (by simpa using h)]
    congr 4
    omega
def enT (M : Mp) (d : D) (T : DIt) : Prop := (∃ ds, d = .tup ds ∧ T = ⟨enI 0 ds, fun _ => True⟩) ∨ (∃ p ds, d = .ref p ∧ M p = some (.lst ds) ∧ T = ⟨enI 0 ds, fun M => M p = some (.lst ds)⟩)
def wIEn (w : WE) : WI := fun ρ M Q => w ρ M fun d M1 => ∃ T, enT M1 d T ∧ Q T M1
theorem itok_el {p : Addr} {ds : List D} {H0 : Hp} : ItOk K (Ite K p) ⟨enI 0 ds, fun M => M p = some (.lst ds)⟩ H0 := fun H M t m k i => by
  obtain ⟨vs, e, r⟩ := m _ _ k
  have el := r.length
  have ez : (enI 0 ds).length = vs.length := by rw [enI_len, el]
  refine ⟨fun hi => ?_, fun hi => ⟨vs, .of e, by rw [← ez]; exact Nat.le_of_eq hi⟩⟩
  have hi : i < vs.length := by rw [← ez]; exact hi
  refine ⟨⟨vs, vs[i], .of e, List.getElem?_eq_getElem _⟩, fun x H' hy => ?_⟩
  obtain ⟨T, v, rfl, hT, eH, g1⟩ := hy
  obtain ⟨d, a1, b1⟩ := r.get' (g1 vs (.of e))
  exact ⟨_, enI_get 0 ds i d a1, yields m hT eH (by unfold Rep; simp) b1⟩
theorem itok_et {p : Addr} {ds : List D} {vs : List V} {H0 : Hp} (h0 : SqT K H0 p vs) (r0 : Reps K H0 ds vs) : ItOk K (IteT K p) ⟨enI 0 ds, fun _ => True⟩ H0 := fun H M t m k i => by
  have e := t _ _ h0
  have r := r0.stay t
  have el := r.length
  have ez : (enI 0 ds).length = vs.length := by rw [enI_len, el]
  refine ⟨fun hi => ?_, fun hi => ?_⟩
  · have hi : i < vs.length := by rw [← ez]; exact hi
    refine ⟨⟨vs, vs[i], e, List.getElem?_eq_getElem _⟩, fun x H' hy => ?_⟩
    obtain ⟨T, v, rfl, hT, eH, g1⟩ := hy
    obtain ⟨d, a1, b1⟩ := r.get' (g1 vs e)
    exact ⟨_, enI_get 0 ds i d a1, yields m hT eH (by unfold Rep; simp) b1⟩
  · exact ⟨vs, e, by rw [← ez]; exact hi⟩
theorem pid_en {elts : List Expr} {kk : Nat} {tpos p : Pos} (h : PE X a (tD X.K wa)) (hg : Gl X "enumerate") (hm : X.mg "enumerate" = none) (hs : starEach [a] X.env = [(false, eval a X.env)]) :
    PI X (.Tuple elts kk tpos) (.Call (.Name "enumerate" p) [a] [] pos) (iD X.K (wIEn wa)) := (pi_enumA hg hm (pda_cons h pda_nil hs) hs).imp fun σ H R => by
  rintro ⟨ρ, M, F, Q0, s, q, g⟩
  refine ⟨ρ, M, F, _, s, arg1 q, fun ds M1 vs H1 q1 t1 f1 r1 p1 => ?_⟩
  obtain ⟨d, rfl, T, hT, q1⟩ := q1
  obtain ⟨v, rfl, p1'⟩ := p1.one
  rcases hT with ⟨ds, rfl, rfl⟩ | ⟨p, ds, rfl, e, rfl⟩
  · unfold Rep at p1'
    obtain ⟨p, vs, rfl, s1, p2⟩ := p1'
    exact ⟨p, vs, rfl, .inr ⟨s1, g _ M1 _ H1 q1 t1 f1 r1 (itok_et s1 p2)⟩⟩
  · cases p1'
    obtain ⟨vs, e1, p2⟩ := r1 _ _ e
    exact ⟨p, vs, rfl, .inl ⟨.of e1, g _ M1 _ H1 q1 t1 f1 r1 itok_el⟩⟩
end
end DL

set_option Elab.async false
set_option linter.all false
set_option maxRecDepth 100000
set_option maxHeartbeats 4000000
/-! DLf: comprehensions, statements. -/
namespace DL
open PySem L2
variable {K : PySem.W.Frag}
/-! ### list comprehensions -/
def wipeD (ρ : Ro) : List Nat → Ro
  | [] => ρ
  | v :: vs => (wipeD ρ vs).set v none
theorem set_none {K : PySem.W.Frag} {H : Hp} {σ : St} {ρ : Ro} (h : RepS K H σ ρ) (v : Nat) : RepS K H (σ.set v none) (ρ.set v none) := by
  refine ⟨by rw [List.length_set, List.length_set]; exact h.1, fun i d e => ?_⟩
  by_cases hi : v = i
  · subst hi
    by_cases hl : v < ρ.length
    · rw [List.getElem?_set_self hl] at e; cases e
    · rw [List.getElem?_eq_none (by rw [List.length_set]; omega)] at e; cases e
  · rw [List.getElem?_set_ne hi] at e ⊢
    exact h.2 i d e
theorem RepS.wipe {H : Hp} {σ : St} {ρ : Ro} (h : RepS K H σ ρ) : ∀ vs : List Nat, RepS K H (L2.wipe σ vs) (wipeD ρ vs)
  | [] => h
  | v :: vs => by unfold L2.wipe wipeD; exact set_none (h.wipe vs) v
theorem wipe_get {σ : St} {vs : List Nat} {j : Nat} : (L2.wipe σ vs)[j]? = if j ∈ vs then (if j < σ.length then some none else none) else σ[j]? := by
  induction vs with
  | nil => unfold L2.wipe; simp
  | cons v vs ih =>
    unfold L2.wipe
    by_cases hv : v = j
    · subst hv
      by_cases hl : v < σ.length
      · rw [List.getElem?_set_self (by rw [wipe_length]; exact hl)]; simp [hl]
      · rw [List.getElem?_eq_none (by rw [List.length_set, wipe_length]; omega)]; simp [hl]
    · rw [List.getElem?_set_ne hv, ih]
      by_cases hm : j ∈ vs
      · simp [hm]
      · have h2 : j ∉ v :: vs := fun h => (List.mem_cons.mp h).elim (fun e => hv e.symm) hm
        rw [if_neg hm, if_neg h2]
theorem wipe_off {σ σ2 : St} {vs : List Nat} (h : Off vs (L2.wipe σ vs) σ2) : L2.wipe σ2 vs = L2.wipe σ vs := by
  apply List.ext_getElem?
  intro j
  have hl : σ2.length = σ.length := by rw [h.1, wipe_length]
  rw [wipe_get, wipe_get, hl]
  by_cases hm : j ∈ vs
  · rw [if_pos hm, if_pos hm]
  · rw [if_neg hm, if_neg hm, h.2 j hm, wipe_get, if_neg hm]
def lcGo (T : DIt) (g : Tg) (wt : WT) (we : WE) (ρ : Ro) (fin : List D → Mp → Prop) : List D → List D → Mp → Prop
  | [], acc, M => T.keep M ∧ fin acc M
  | x :: xs, acc, M => T.keep M ∧ ∃ ρ1, g.asn x ρ = some ρ1 ∧ wt ρ1 M fun b M1 => if b = true then we ρ1 M1 fun d M2 => lcGo T g wt we ρ fin xs (acc ++ [d]) M2 else lcGo T g wt we ρ fin xs acc M1
def wYes : WT := fun _ M Q => Q true M
def wLc (wi : WI) (g : Tg) (wt : WT) (we : WE) (vs : List Nat) : WE := fun ρ M Q => wi ρ M fun T M1 => T.items.length ≤ sizeLine ∧ lcGo T g wt we (wipeD ρ vs) (fun acc M2 => ∀ p, M2 p = none → Q (.ref p) (up M2 p (.lst acc))) T.items [] M1
theorem RepM.off {H : Hp} {M : Mp} (r : RepM K H M) {p : Addr} {u : HO} {ys : List V} (h : M p = Option.none) (hp : H p = Option.some (.lst ys)) : RepM K (upd H p u) M := fun a q e => by
  have ha : a ≠ p := fun z => by subst z; rw [h] at e; cases e
  exact (r a q e).stay (.lst hp) (upd_ne ha)
theorem lc_of {wi : WI} {g : Tg} {wt : WT} {we : WE} {vs : List Nat} (hg : ∀ j ∈ g.slots, j ∈ vs) {σ : St} {H : Hp} {Q : VK} (h : tD K (wLc wi g wt we vs) σ H Q) : tLc (iD K wi) (gD K g) (tDT K wt) (tD K we) vs σ H Q := by
  obtain ⟨ρ, M, F, Q0, s, q, gg⟩ := h
  refine ⟨ρ, M, F, _, s, q, fun T M1 J H1 q1 t1 f1 r1 it => ?_⟩
  obtain ⟨hlen, q1⟩ := q1
  intro D hD
  have fr1 := s.fr.next f1
  have nF : ∀ a, F a → a ≠ D := fun a ha z => by obtain ⟨⟨o, e⟩, _⟩ := fr1 a ha; rw [z, hD] at e; cases e
  generalize hfin : (fun acc M2 => ∀ p, M2 p = none → Q0 (.ref p) (up M2 p (.lst acc))) = fin at q1
  refine ⟨fun i m H' => m = T.items.length - i ∧ i ≤ T.items.length ∧ ∃ acc vacc M', H' D = some (.lst vacc) ∧ Reps K H' acc vacc ∧ acc.length ≤ i ∧ RepM K H' M' ∧ FrOk (fun a => F a ∨ a = D) H' M' ∧ TupS K H H' ∧ Frm F H H' M' ∧ TupS K H1 H' ∧ lcGo T g wt we (wipeD ρ vs) fin (T.items.drop i) acc M', ⟨T.items.length, rfl, Nat.zero_le _, [], [], M1, upd_same, .nil, Nat.zero_le _, r1.more hD, fun a ha => ?_, t1.trans (.new hD), f1.trans (fr1.more hD), .new hD, q1⟩, ?_⟩
  · rcases ha with ha | rfl
    · exact ⟨by rw [upd_ne (nF a ha)]; exact (fr1 a ha).1, (fr1 a ha).2⟩
    · exact ⟨⟨_, upd_same⟩, r1.none hD⟩
  · rintro i m H2 ⟨rfl, hi, acc, vacc, M2, eD, ra, la, r2, fr2, t2, f2, tt2, q2⟩
    by_cases hlt : i < T.items.length
    · rw [List.drop_eq_getElem_cons hlt] at q2
      unfold lcGo at q2
      obtain ⟨hk, ρ1, ea, q2⟩ := q2
      obtain ⟨go, yl⟩ := (it H2 M2 tt2 r2 hk i).1 hlt
      refine .inr ⟨go, fun H' => ∃ acc vacc M', H' D = some (.lst vacc) ∧ Reps K H' acc vacc ∧ acc.length ≤ i + 1 ∧ RepM K H' M' ∧ FrOk (fun a => F a ∨ a = D) H' M' ∧ TupS K H H' ∧ Frm F H H' M' ∧ TupS K H1 H' ∧ lcGo T g wt we (wipeD ρ vs) fin (T.items.drop (i + 1)) acc M', fun H' ⟨acc, vacc, M', h1, h2, h3, h4, h5, h6, h7, h8, h9⟩ => ⟨T.items.length - (i + 1), by omega, rfl, hlt, acc, vacc, M', h1, h2, h3, h4, h5, h6, h7, h8, h9⟩, fun x H3 hy => ?_⟩
      obtain ⟨d, ed, t3, k3, r3, p3⟩ := yl x H3 hy
      rw [List.getElem?_eq_getElem hlt] at ed
      cases ed
      have f3 : Frm (fun a => F a ∨ a = D) H2 H3 M2 := .of_same fr2 k3
      have fr3 := fr2.next f3
      have s3 : Stt K H3 (L2.wipe σ vs) (wipeD ρ vs) M2 (fun a => F a ∨ a = D) := by
        refine ⟨?_, r3, fr3⟩
        have e := s.rs.wipe vs
        exact ⟨e.1, fun i d h => let ⟨v, e1, e2⟩ := e.2 i d h; ⟨v, e1, e2.stay (t2.trans t3)⟩⟩
      refine ⟨_, wipeD ρ vs, ρ1, M2, _, p3, s3, ea, fun σ2 o2 s2 => ⟨wipe_off (o2.mono hg), ρ1, M2, _, _, s2, q2, fun b M4 H4 q4 t4 f4 r4 => ?_⟩⟩
      have e4 : H4 D = some (.lst vacc) := by rw [(f4 D (.inr rfl)).1, k3 D _ eD]
      have n4 : M4 D = none := (f4 D (.inr rfl)).2
      have F4 : Frm F H H4 M4 := f2.trans (Frm.trans (M1 := M2) (fun a ha => f3 a (.inl ha)) fun a ha => f4 a (.inl ha))
      cases b with
      | false =>
        rw [if_neg Bool.false_ne_true] at q4
        show if false = true then _ else _
        rw [if_neg Bool.false_ne_true]
        exact ⟨acc, vacc, M4, e4, ra.stay (t3.trans t4), by omega, r4, fr3.next f4, (t2.trans t3).trans t4, F4, (tt2.trans t3).trans t4, q4⟩
      | true =>
        rw [if_pos rfl] at q4
        show if true = true then _ else _
        rw [if_pos rfl]
        refine ⟨ρ1, M4, _, _, s2.next t4 f4 r4, q4, fun d M5 y H5 q5 t5 f5 r5 p5 => ?_⟩
        have e5 : H5 D = some (.lst vacc) := by rw [(f5 D (.inr rfl)).1, e4]
        have n5 : M5 D = none := (f5 D (.inr rfl)).2
        have tl : TupS K H5 (upd H5 D (.lst (vacc ++ [y]))) := .lst e5
        refine ⟨vacc, e5, by rw [← ra.length]; omega, acc ++ [d], vacc ++ [y], M5, upd_same, ((ra.stay (t3.trans (t4.trans t5))).snoc p5).stay tl, by simp; omega, r5.off n5 e5, fun a ha => ?_, ((t2.trans t3).trans (t4.trans t5)).trans tl, fun a ha => ?_, ((tt2.trans t3).trans (t4.trans t5)).trans tl, q5⟩
        · rcases ha with ha | rfl
          · have := ((fr3.next f4).next f5) a (.inl ha)
            exact ⟨by rw [upd_ne (nF a ha)]; exact this.1, this.2⟩
          · exact ⟨⟨_, upd_same⟩, n5⟩
        · have e := (F4.trans fun a ha => f5 a (.inl ha)) a ha
          exact ⟨by rw [upd_ne (nF a ha)]; exact e.1, e.2⟩
    · have e : i = T.items.length := by omega
      subst e
      rw [List.drop_length] at q2
      unfold lcGo at q2
      obtain ⟨hk, q2⟩ := q2
      refine .inl ⟨(it H2 M2 tt2 r2 hk _).2 rfl, ?_⟩
      subst hfin
      have n2 : M2 D = none := (fr2 D (.inr rfl)).2
      refine gg _ _ _ H2 (q2 D n2) t2 (fun a ha => ⟨(f2 a ha).1, by rw [up_ne (nF a ha)]; exact (f2 a ha).2⟩) (fun a o ea => ?_) rfl
      by_cases ha : a = D
      · subst ha; rw [up_same] at ea; cases ea; exact ⟨vacc, eD, ra⟩
      · rw [up_ne ha] at ea; exact r2 a o ea
section
variable {X : Cx} {a b c : Expr} {wa wb wc : WE} {pos : Pos}
theorem pd_lc {elt tg iter : Expr} {ifs : List Expr} {scope : Scope} {own : List (Str × Nat)} {wi : WI} {g : Tg} {wt : WT} {we : WE} (hc : X.calm = true) (hN : X.N.Nodup) (hi : PI X tg iter (iD X.K wi)) (ok : BlkOk X.N X.env.scope scope own)
    (hg : ∀ (s : Shared) (H : Hp) (C : Addr) (cl : List (Str × Addr)) (fp : List Addr), PG (X.blk s H scope (compEnvC scope cl C X.env) fp) tg (gD X.K g)) (ht : ∀ (s : Shared) (H : Hp) (C : Addr) (cl : List (Str × Addr)) (fp : List Addr), PTs (X.blk s H scope (compEnvC scope cl C X.env) fp) ifs (tDT X.K wt))
    (he : ∀ (s : Shared) (H : Hp) (C : Addr) (cl : List (Str × Addr)) (fp : List Addr), PE (X.blk s H scope (compEnvC scope cl C X.env) fp) elt (tD X.K we)) (hs : ∀ x, foldedSetIterable iter X.env x = pure x) (hgs : ∀ j ∈ g.slots, j ∈ own.map (·.2)) :
    PE X (.ListComp elt [⟨tg, iter, ifs, 0⟩] scope pos) (tD X.K (wLc wi g wt we (own.map (·.2)))) := (pe_lc hc hN hi ok hg ht he hs).imp fun _ _ _ h => lc_of hgs h
/-! ### statements -/
end
structure DEnds where
  nx : Ro → Mp → Prop
  rt : D → Mp → Prop
  bk : Ro → Mp → Prop
  ct : Ro → Mp → Prop
abbrev WS := DEnds → Ro → Mp → Prop
structure GoS (K : PySem.W.Frag) (F : Addr → Prop) (H : Hp) (D0 : DEnds) (D : Ends) : Prop where
  nx : ∀ ρ' M' σ' H', D0.nx ρ' M' → TupS K H H' → Frm F H H' M' → Stt K H' σ' ρ' M' F → D.nx σ' H'
  rt : ∀ d M' v H', D0.rt d M' → TupS K H H' → Frm F H H' M' → RepM K H' M' → Rep K H' d v → D.rt v H'
  bk : ∀ ρ' M' σ' H', D0.bk ρ' M' → TupS K H H' → Frm F H H' M' → Stt K H' σ' ρ' M' F → D.bk σ' H'
  ct : ∀ ρ' M' σ' H', D0.ct ρ' M' → TupS K H H' → Frm F H H' M' → Stt K H' σ' ρ' M' F → D.ct σ' H'
theorem GoS.from {F : Addr → Prop} {H H1 : Hp} {M1 : Mp} {D0 : DEnds} {D : Ends} (g : GoS K F H D0 D) (t : TupS K H H1) (f : Frm F H H1 M1) : GoS K F H1 D0 D :=
  ⟨fun ρ' M' σ' H' q t' f' s => g.nx ρ' M' σ' H' q (t.trans t') (f.trans f') s, fun d M' v H' q t' f' r p => g.rt d M' v H' q (t.trans t') (f.trans f') r p,
   fun ρ' M' σ' H' q t' f' s => g.bk ρ' M' σ' H' q (t.trans t') (f.trans f') s, fun ρ' M' σ' H' q t' f' s => g.ct ρ' M' σ' H' q (t.trans t') (f.trans f') s⟩
def tDS (K : PySem.W.Frag) (w : WS) : TS := fun D σ H => ∃ ρ M F D0, Stt K H σ ρ M F ∧ w D0 ρ M ∧ GoS K F H D0 D
def wNext : WS := fun D0 ρ M => D0.nx ρ M
def wSeq (w u : WS) : WS := fun D0 ρ M => w { D0 with nx := fun ρ' M' => u D0 ρ' M' } ρ M
section
variable {X : Cx} {a b c : Expr} {wa wb wc : WE} {pos : Pos} {st : Stmt} {rest sts sts' : List Stmt} {w u : WS}
theorem psd_nil : PSs X [] (tDS X.K wNext) := pss_nil.imp fun D σ H => by
  rintro ⟨ρ, M, F, D0, s, q, g⟩
  exact g.nx ρ M σ H q (.refl _) s.fr.frm s
theorem psd_cons (h1 : PS X st (tDS X.K w)) (h2 : PSs X rest (tDS X.K u)) : PSs X (st :: rest) (tDS X.K (wSeq w u)) := (pss_cons h1 h2).imp fun D σ H => by
  rintro ⟨ρ, M, F, D0, s, q, g⟩
  exact ⟨ρ, M, F, _, s, q, ⟨fun ρ' M' σ' H' q' t' f' s' => ⟨ρ', M', F, D0, s', q', g.from t' f'⟩, g.rt, g.bk, g.ct⟩⟩
def wNever : WS := fun _ _ _ => False
theorem psd_never : PS X st (tDS X.K wNever) := ps_never.imp fun D σ H => by
  rintro ⟨ρ, M, F, D0, s, q, g⟩
  exact q
theorem psd_pass : PS X (.Pass pos) (tDS X.K wNext) := ps_pass.imp fun D σ H => by
  rintro ⟨ρ, M, F, D0, s, q, g⟩
  exact g.nx ρ M σ H q (.refl _) s.fr.frm s
def wCont : WS := fun D0 ρ M => D0.ct ρ M
theorem psd_cont : PS X (.Continue pos) (tDS X.K wCont) := ps_continue.imp fun D σ H => by
  rintro ⟨ρ, M, F, D0, s, q, g⟩
  exact g.ct ρ M σ H q (.refl _) s.fr.frm s
def wDrop (we : WE) : WS := fun D0 ρ M => we ρ M fun _ M1 => D0.nx ρ M1
theorem psd_expr (he : PE X a (tD X.K wa)) (hs : swapsWith a none pos.line X.env = pure false) : PS X (.Expr a pos) (tDS X.K (wDrop wa)) := (ps_expr he hs).imp fun D σ H => by
  rintro ⟨ρ, M, F, D0, s, q, g⟩
  exact ⟨ρ, M, F, _, s, q, fun d M1 v H1 q1 t1 f1 r1 p1 => g.nx ρ M1 σ H1 q1 t1 f1 (s.next t1 f1 r1)⟩
def wRet (we : WE) : WS := fun D0 ρ M => we ρ M D0.rt
theorem psd_ret (he : PE X a (tD X.K wa)) : PS X (.Return (some a) pos) (tDS X.K (wRet wa)) := (ps_ret he).imp fun D σ H => by
  rintro ⟨ρ, M, F, D0, s, q, g⟩
  exact ⟨ρ, M, F, _, s, q, fun d M1 v H1 q1 t1 f1 r1 p1 => g.rt d M1 v H1 q1 t1 f1 r1 p1⟩
def wRetN : WS := fun D0 _ M => D0.rt .non M
theorem psd_retN : PS X (.Return none pos) (tDS X.K wRetN) := ps_retN.imp fun D σ H => by
  rintro ⟨ρ, M, F, D0, s, q, g⟩
  exact g.rt .non M .non H q (.refl _) s.fr.frm s.rm rfl
def wIfS (t : WT) (w u : WS) : WS := fun D0 ρ M => t ρ M fun b M1 => if b = true then w D0 ρ M1 else u D0 ρ M1
theorem psd_if {wt : WT} (hc : PT X c (tDT X.K wt)) (ha : PSs X sts (tDS X.K w)) (hb : PSs X sts' (tDS X.K u)) : PS X (.If c sts sts' pos) (tDS X.K (wIfS wt w u)) := (ps_if hc ha hb).imp fun D σ H => by
  rintro ⟨ρ, M, F, D0, s, q, g⟩
  refine ⟨ρ, M, F, _, s, q, fun b M1 H1 q1 t1 f1 r1 => ?_⟩
  cases b with
  | true => rw [if_pos rfl] at q1 ⊢; exact ⟨ρ, M1, F, D0, s.next t1 f1 r1, q1, g.from t1 f1⟩
  | false => rw [if_neg Bool.false_ne_true] at q1 ⊢; exact ⟨ρ, M1, F, D0, s.next t1 f1 r1, q1, g.from t1 f1⟩
def wAsg (we : WE) (g : Tg) : WS := fun D0 ρ M => we ρ M fun d M1 => ∃ ρ', g.asn d ρ = some ρ' ∧ D0.nx ρ' M1
theorem asg_of {gt : Tg} {D : Ends} {σ : St} {H : Hp} (h : tDS K (wAsg wa gt) D σ H) : tAsg (tD K wa) (gD K gt) D σ H := by
  obtain ⟨ρ, M, F, D0, s, q, g⟩ := h
  refine ⟨ρ, M, F, _, s, q, fun d M1 v H1 q1 t1 f1 r1 p1 => ?_⟩
  obtain ⟨ρ', e, q1⟩ := q1
  exact ⟨d, ρ, ρ', M1, F, p1, s.next t1 f1 r1, e, fun σ' _ s' => g.nx ρ' M1 σ' H1 q1 t1 f1 s'⟩
theorem psd_asg {tg : Expr} {gt : Tg} (he : PE X a (tD X.K wa)) (hg : PG X tg (gD X.K gt)) (hs : swapsWithSole [tg] a pos.line X.env = pure false) (hw : swappedStores [tg] a X.env = pure none) (h1 : (assignEach [tg] X.env).map (·.2) = [assign tg X.env]) :
    PS X (.Assign [tg] a pos) (tDS X.K (wAsg wa gt)) := (ps_asg he hg hs hw h1).imp fun _ _ _ h => asg_of h
/-- name = [..] on one line -/
theorem psd_setLc {i : Nat} {y : Str} {py spos : Pos} {elt tg iter : Expr} {ifs : List Expr} {scope : Scope} {own : List (Str × Nat)} {wi : WI} {g : Tg} {wt : WT} {we : WE} (hc : X.calm = true) (hN : X.N.Nodup) (hy : X.N[i]? = some y) (hyl : X.env.scope.names.lookup y = some .local)
    (hsw : swapsWith (.ListComp elt [⟨tg, iter, ifs, 0⟩] scope pos) (some (.Name y py)) spos.line X.env = pure true) (hi : PI X tg iter (iD X.K wi)) (ok : BlkOk X.N X.env.scope scope own)
    (hg : ∀ (s : Shared) (H : Hp) (C : Addr) (cl : List (Str × Addr)) (fp : List Addr), PG (X.blk s H scope (compEnvC scope cl C X.env) fp) tg (gD X.K g)) (ht : ∀ (s : Shared) (H : Hp) (C : Addr) (cl : List (Str × Addr)) (fp : List Addr), PTs (X.blk s H scope (compEnvC scope cl C X.env) fp) ifs (tDT X.K wt))
    (he : ∀ (s : Shared) (H : Hp) (C : Addr) (cl : List (Str × Addr)) (fp : List Addr), PE (X.blk s H scope (compEnvC scope cl C X.env) fp) elt (tD X.K we)) (hs : ∀ x, foldedSetIterable iter X.env x = pure x) (hgs : ∀ j ∈ g.slots, j ∈ own.map (·.2)) :
    PS X (.Assign [.Name y py] (.ListComp elt [⟨tg, iter, ifs, 0⟩] scope pos) spos) (tDS X.K (wAsg (wLc wi g wt we (own.map (·.2))) (.name i))) :=
  (ps_setLc hc hN hy hyl hsw hi ok hg ht he hs).imp fun D σ H => by
    rintro ⟨ρ, M, F, D0, s, q, gg⟩
    refine lc_of hgs ⟨ρ, M, F, _, s, q, fun d M1 v H1 q1 t1 f1 r1 p1 => ?_⟩
    obtain ⟨ρ', e, q1⟩ := q1
    unfold Tg.asn at e
    cases e
    exact gg.nx _ M1 _ H1 q1 t1 f1 ((s.next t1 f1 r1).set p1 i)
/-! ### loops -/
def forGo (T : DIt) (g : Tg) (wb : WS) (D0 : DEnds) : List D → Ro → Mp → Prop
  | [], ρ, M => T.keep M ∧ D0.nx ρ M
  | x :: xs, ρ, M => T.keep M ∧ ∃ ρ1, g.asn x ρ = some ρ1 ∧ wb { D0 with nx := forGo T g wb D0 xs, ct := forGo T g wb D0 xs, bk := D0.nx } ρ1 M
def wFor (wi : WI) (g : Tg) (wb : WS) : WS := fun D0 ρ M => wi ρ M fun T M1 => forGo T g wb D0 T.items ρ M1
theorem psd_for {tg iter : Expr} {wi : WI} {g : Tg} {w : WS} (hp : PassesOwn (model X.prog X.w) X.A X.env X.xe) (hc : X.calm = true) (hi : PI X tg iter (iD X.K wi)) (hg : PG X tg (gD X.K g)) (hb : PSs X sts (tDS X.K w)) (hs : ∀ x, foldedSetIterable iter X.env x = pure x) :
    PS X (.For tg iter sts [] pos) (tDS X.K (wFor wi g w)) := (ps_for hp hc hi hg hb hs).imp fun D σ H => by
  rintro ⟨ρ, M, F, D0, s, q, gg⟩
  refine ⟨ρ, M, F, _, s, q, fun T M1 J H1 q1 t1 f1 r1 it => ?_⟩
  refine ⟨fun i m σ' H' => m = T.items.length - i ∧ i ≤ T.items.length ∧ ∃ ρ' M', Stt X.K H' σ' ρ' M' F ∧ TupS X.K H H' ∧ Frm F H H' M' ∧ TupS X.K H1 H' ∧ forGo T g w D0 (T.items.drop i) ρ' M', ⟨T.items.length, rfl, Nat.zero_le _, ρ, M1, s.next t1 f1 r1, t1, f1, .refl _, q1⟩, ?_⟩
  rintro i m σ2 H2 ⟨rfl, hi, ρ2, M2, s2, t2, f2, tt2, q2⟩
  by_cases hlt : i < T.items.length
  · rw [List.drop_eq_getElem_cons hlt] at q2
    unfold forGo at q2
    obtain ⟨hk, ρ3, ea, q2⟩ := q2
    obtain ⟨go, yl⟩ := (it H2 M2 tt2 s2.rm hk i).1 hlt
    refine .inr ⟨go, fun σ' H' => ∃ ρ' M', Stt X.K H' σ' ρ' M' F ∧ TupS X.K H H' ∧ Frm F H H' M' ∧ TupS X.K H1 H' ∧ forGo T g w D0 (T.items.drop (i + 1)) ρ' M', fun σ' H' h => ⟨T.items.length - (i + 1), by omega, rfl, hlt, h⟩, fun x H3 hy => ?_⟩
    obtain ⟨d, ed, t3, k3, r3, p3⟩ := yl x H3 hy
    rw [List.getElem?_eq_getElem hlt] at ed
    cases ed
    have f3 : Frm F H2 H3 M2 := .of_same s2.fr k3
    refine ⟨_, ρ2, ρ3, M2, F, p3, s2.next t3 f3 r3, ea, fun σ4 _ s4 => ⟨ρ3, M2, F, _, s4, q2, ?_⟩⟩
    have nxt : ∀ ρ' M' σ' H', forGo T g w D0 (T.items.drop (i + 1)) ρ' M' → TupS X.K H3 H' → Frm F H3 H' M' → Stt X.K H' σ' ρ' M' F → ∃ ρ' M', Stt X.K H' σ' ρ' M' F ∧ TupS X.K H H' ∧ Frm F H H' M' ∧ TupS X.K H1 H' ∧ forGo T g w D0 (T.items.drop (i + 1)) ρ' M' :=
      fun ρ' M' σ' H' q' t' f' s' => ⟨ρ', M', s', (t2.trans t3).trans t', (f2.trans f3).trans f', (tt2.trans t3).trans t', q'⟩
    have g3 := ((gg.from t2 f2).from t3 f3)
    exact ⟨nxt, g3.rt, g3.nx, nxt⟩
  · have e : i = T.items.length := by omega
    subst e
    rw [List.drop_length] at q2
    unfold forGo at q2
    exact .inl ⟨(it H2 M2 tt2 s2.rm q2.1 _).2 rfl, gg.nx ρ2 M2 σ2 H2 q2.2 t2 f2 s2⟩
def wWhile (t : WT) (wb : WS) : WS := fun D0 ρ M => ∃ W : Nat → Ro → Mp → Prop, (∃ m, W m ρ M) ∧ ∀ m ρ M, W m ρ M → t ρ M fun b M1 => if b = true then wb { D0 with nx := fun ρ' M' => ∃ m', m' < m ∧ W m' ρ' M', ct := fun ρ' M' => ∃ m', m' < m ∧ W m' ρ' M', bk := D0.nx } ρ M1 else D0.nx ρ M1
theorem psd_while {wt : WT} {w : WS} (hp : PassesOwn (model X.prog X.w) X.A X.env X.xe) (hc : PT X c (tDT X.K wt)) (hb : PSs X sts (tDS X.K w)) : PS X (.While c sts [] pos) (tDS X.K (wWhile wt w)) := (ps_while hp hc hb).imp fun D σ H => by
  rintro ⟨ρ, M, F, D0, s, ⟨W, ⟨m0, w0⟩, turn⟩, gg⟩
  refine ⟨fun m σ' H' => ∃ ρ' M', Stt X.K H' σ' ρ' M' F ∧ TupS X.K H H' ∧ Frm F H H' M' ∧ W m ρ' M', ⟨m0, ρ, M, s, .refl _, s.fr.frm, w0⟩, ?_⟩
  rintro m σ1 H1 ⟨ρ1, M1, s1, t1, f1, w1⟩
  refine ⟨ρ1, M1, F, _, s1, turn m ρ1 M1 w1, fun b M2 H2 q2 t2 f2 r2 => ?_⟩
  cases b with
  | true =>
    rw [if_pos rfl] at q2 ⊢
    refine ⟨fun σ' H' => ∃ m', m' < m ∧ ∃ ρ' M', Stt X.K H' σ' ρ' M' F ∧ TupS X.K H H' ∧ Frm F H H' M' ∧ W m' ρ' M', fun σ' H' h => h, ρ1, M2, F, _, s1.next t2 f2 r2, q2, ?_⟩
    have nxt : ∀ ρ' M' σ' H', (∃ m', m' < m ∧ W m' ρ' M') → TupS X.K H2 H' → Frm F H2 H' M' → Stt X.K H' σ' ρ' M' F → ∃ m', m' < m ∧ ∃ ρ' M', Stt X.K H' σ' ρ' M' F ∧ TupS X.K H H' ∧ Frm F H H' M' ∧ W m' ρ' M' :=
      fun ρ' M' σ' H' ⟨m', hm, q'⟩ t' f' s' => ⟨m', hm, ρ', M', s', (t1.trans t2).trans t', (f1.trans f2).trans f', q'⟩
    have g3 := ((gg.from t1 f1).from t2 f2)
    exact ⟨nxt, g3.rt, g3.nx, nxt⟩
  | false =>
    rw [if_neg Bool.false_ne_true] at q2 ⊢
    exact gg.nx ρ1 M2 σ1 H2 q2 (t1.trans t2) (f1.trans f2) (s1.next t2 f2 r2)
end
end DL

set_option Elab.async false
set_option linter.all false
set_option maxRecDepth 100000
set_option maxHeartbeats 4000000
/-! DLg: calls, fields, methods of built-ins; what a text's parts must look like. -/
namespace DL
open PySem L2
variable {K : PySem.W.Frag}
/-! ### looks at a text -/
def notStar : Expr → Bool
  | .Starred _ _ => false
  | _ => true
theorem star_of {x : Expr} (h : notStar x = true) (xs : List Expr) (env : Env) : starEach (x :: xs) env = (false, eval x env) :: starEach xs env := by
  cases x <;> first | rfl | cases h
theorem stars_of {env : Env} : ∀ {xs : List Expr}, xs.all notStar = true → starEach xs env = xs.map fun x => (false, eval x env)
  | [], _ => rfl
  | x :: xs, h => by
    rw [List.all_cons, Bool.and_eq_true] at h
    rw [star_of h.1, stars_of h.2]
    rfl
theorem back_any {env : Env} {xs : List Expr} {pos : Pos} (h : xs.all notStar = true) : (backTo pos (starEach xs env)).any (·.1) = false := by
  rw [stars_of h]
  unfold backTo
  rw [List.map_map, List.any_map]
  induction xs with
  | nil => rfl
  | cons x xs ih =>
    rw [List.all_cons, Bool.and_eq_true] at h
    rw [List.any_cons, ih h.2]
    rfl
def plainTest : Expr → Bool
  | .UnaryOp .Not _ _ => false
  | .BoolOp _ _ _ => false
  | .IfExp _ _ _ _ => false
  | .Compare _ _ _ _ => false
  | _ => true
theorem test_plain {x : Expr} (h : plainTest x = true) (env : Env) (whole : Sem Value) : isTrue x env whole = (do let v ← whole; standAt x.pos; holding [v] (truthy v)) := by
  cases x with
  | UnaryOp op a p => cases op <;> first | rfl | cases h
  | BoolOp => cases h
  | IfExp => cases h
  | Compare => cases h
  | _ => rfl
def plainBase : Expr → Bool
  | .Call _ _ _ _ => false
  | _ => true
theorem base_plain {x : Expr} (h : plainBase x = true) (f : Str) (env : Env) (whole : Sem Value) : attributeBase x f env whole = whole := by
  cases x <;> first | rfl | cases h
def notSlice : Expr → Bool
  | .Slice _ _ _ _ => false
  | _ => true
theorem ix_plain {x : Expr} (h : notSlice x = true) : PlainIx x := fun o i => by
  cases x <;> first | rfl | cases h
def notSet : Expr → Bool
  | .Set _ _ _ => false
  | _ => true
theorem set_plain {x : Expr} (h : notSet x = true) (env : Env) (v : Value) : foldedSetIterable x env v = pure v := by
  cases x <;> first | rfl | cases h
def isComp : Expr → Bool
  | .ListComp _ _ _ _ => true
  | .SetComp _ _ _ _ => true
  | .DictComp _ _ _ _ _ => true
  | _ => false
theorem swaps_plain {x : Expr} (h : isComp x = false) (t : Option Expr) (l : Nat) (env : Env) : swapsWith x t l env = pure false := by
  cases x <;> first | rfl | cases h
def isTup : Expr → Bool
  | .Tuple _ _ _ => true
  | _ => false
theorem swapped_plain {x t : Expr} (h : isTup x = false) (env : Env) : swappedStores [t] x env = pure none := by
  cases x <;> first | (cases t <;> rfl) | cases h
theorem swapped_name {x : Expr} {y : Str} {p : Pos} (env : Env) : swappedStores [.Name y p] x env = pure none := rfl
/-! ### calls of what the text has -/
structure Co where
  prog : Program
  w : World
  K : PySem.W.Frag
  mg : Str → Option Value
  base : Heap
  A : Around
def co (X : Cx) : Co := ⟨X.prog, X.w, X.K, X.mg, X.base, X.A⟩
/-- f(..) of the global x with n places and the keywords ks tells as S (places, then keywords) -/
def Callee (c : Co) (x : Str) (n : Nat) (ks : List Str) (S : Spec) : Prop := ∃ f, c.mg x = some (.ref f) ∧ PySem.W.keepIn c.K (.ref f) = true ∧
  ∀ (X : Cx), co X = c → X.calm = true → ∀ (pins : List (Addr × Obj)) (s : Shared) (σ : St) (H : Hp) (Q : VK) (us ws : List Value) (vs zs : List V), Inv X pins σ H s → Vals vs us → Vals zs ws → vs.length = n → zs.length = ks.length →
    rDL X.K S (vs ++ zs) H Q → wpAny (model X.prog X.w) X.A (call (.ref f) us (ks.zip ws)) (EP X pins σ Q) X.xe s
/-- a def's promise over data -/
def spD (K : PySem.W.Frag) (S : Spec) : Sp := fun vs H Q _ => rDL K S vs H Q
section
variable {X : Cx} {a b c : Expr} {wa wb wc : WE} {pos : Pos}
/-- argument lists, their number told -/
def GoN (K : PySem.W.Frag) (n : Nat) (F : Addr → Prop) (H : Hp) (Q0 : List D → Mp → Prop) (Q : List V → Hp → Prop) : Prop := ∀ ds M' vs H', vs.length = n → Q0 ds M' → TupS K H H' → Frm F H H' M' → RepM K H' M' → Reps K H' ds vs → Q vs H'
def tDN (K : PySem.W.Frag) (n : Nat) (w : WA) : TA := fun σ H Q => ∃ ρ M F Q0, Stt K H σ ρ M F ∧ w ρ M Q0 ∧ GoN K n F H Q0 Q
theorem pdn_nil : PA X [] (tDN X.K 0 wNil) := pa_nil.imp fun σ H Q => by
  rintro ⟨ρ, M, F, Q0, s, q, g⟩
  exact g [] M [] H rfl q (.refl _) s.fr.frm s.rm .nil
theorem cons_of {w : WE} {u : WA} {n : Nat} {σ : St} {H : Hp} {Q : List V → Hp → Prop} (h : tDN K (n + 1) (wCons w u) σ H Q) : tCons (tD K w) (tDN K n u) σ H Q := by
  obtain ⟨ρ, M, F, Q0, s, q, g⟩ := h
  refine ⟨ρ, M, F, _, s, q, fun x M1 v H1 q1 t1 f1 r1 p1 => ⟨ρ, M1, F, _, s.next t1 f1 r1, q1, fun ds M2 vs H2 hl q2 t2 f2 r2 p2 => ?_⟩⟩
  exact g _ M2 _ H2 (by rw [List.length_cons, hl]) q2 (t1.trans t2) (f1.trans f2) r2 (.cons (p1.stay t2) p2)
theorem pdn_cons {es : List Expr} {u : WA} {n : Nat} (ha : PE X a (tD X.K wa)) (hr : PA X es (tDN X.K n u)) (hs : starEach (a :: es) X.env = (false, eval a X.env) :: starEach es X.env) : PA X (a :: es) (tDN X.K (n + 1) (wCons wa u)) := (pa_cons ha hr hs).imp fun _ _ _ h => cons_of h
theorem pdn_a {es : List Expr} {u : WA} {n : Nat} (h : PA X es (tDN X.K n u)) : PA X es (tDA X.K u) := h.imp fun σ H Q => by
  rintro ⟨ρ, M, F, Q0, s, q, g⟩
  exact ⟨ρ, M, F, Q0, s, q, fun ds M' vs H' _ q t f r p => g ds M' vs H' q t f r p⟩
theorem _root_.L2.PK.imp {kws : List Keyword} {t t' : TA} (h : PK X kws t) (i : ∀ σ H Q, t' σ H Q → t σ H Q) : PK X kws t' := ⟨fun pos pins s σ H Q I q => h.run pos pins s σ H Q I (i σ H Q q)⟩
theorem pdk_nil : PK X [] (tDN X.K 0 wNil) := pk_nil.imp fun σ H Q => by
  rintro ⟨ρ, M, F, Q0, s, q, g⟩
  exact g [] M [] H rfl q (.refl _) s.fr.frm s.rm .nil
theorem pdk_cons {kws : List Keyword} {u : WA} {nm : Option Str} {kpos : Pos} {n : Nat} (ha : PE X a (tD X.K wa)) (hr : PK X kws (tDN X.K n u)) : PK X (⟨nm, a, kpos⟩ :: kws) (tDN X.K (n + 1) (wCons wa u)) := (pk_cons ha hr).imp fun _ _ _ h => cons_of h
theorem pd_call0 {x : Str} {S : Spec} {p : Pos} (hx : Callee (co X) x 0 [] S) (hc : X.calm = true) (hg : Gl X x) (hdb : (x == ("__debug__" : Str)) = false) : PE X (.Call (.Name x p) [] [] pos) (tD X.K (wCall S wNil)) := by
  obtain ⟨f, hm, hk, run⟩ := hx
  refine ⟨fun pins s σ H Q I h => ?_⟩
  refine wpAny_Call_Name_kw (ld_glob I hg hm ?_ hdb)
  obtain ⟨ρ, M, F, Q0, s0, q, g⟩ := h
  exact PySem.W.callWith_K0 I.kIn hk (run X rfl hc pins s σ H Q [] [] [] [] I .nil .nil rfl rfl ⟨[], M, F, Q0, .nil, s0.rm, s0.fr, q, g⟩)
theorem pd_call {x : Str} {n : Nat} {S : Spec} {p : Pos} {e : Expr} {es : List Expr} {u : WA} (hx : Callee (co X) x n [] S) (hc : X.calm = true) (hg : Gl X x) (hdb : (x == ("__debug__" : Str)) = false) (ha : PA X (e :: es) (tDN X.K n u)) (hs : (e :: es).all notStar = true) :
    PE X (.Call (.Name x p) (e :: es) [] pos) (tD X.K (wCall S u)) := by
  obtain ⟨f, hm, hk, run⟩ := hx
  refine ⟨fun pins s σ H Q I h => ?_⟩
  refine wpAny_Call_Name_kw (ld_glob I hg hm ?_ hdb)
  obtain ⟨ρ, M, F, Q0, s0, q, g⟩ := h
  rw [List.all_cons, Bool.and_eq_true] at hs
  refine PySem.W.callWith_K (h₀ := X.base) I.ok.mod.kin hk (thn (ha.run pos pins s σ H (fun vs H1 => vs.length = n ∧ rDL X.K S vs H1 Q) I ⟨ρ, M, F, _, s0, q, fun ds M1 vs H1 hl q1 t1 f1 r1 p1 => ⟨hl, ds, M1, F, Q0, p1, r1, s0.fr.next f1, q1, g.from t1 f1⟩⟩) fun us s1 ⟨vs, H1, I1, r, hl, q⟩ => ⟨I1.kIn, ?_⟩) (star_of hs.1 _ _) (back_any hs.2)
  exact run X rfl hc pins s1 σ H1 Q us [] vs [] I1 r .nil hl rfl (by rw [List.append_nil]; exact q)
/-- with keywords -/
def wCallK (S : Spec) (u uk : WA) : WE := fun ρ M Q => u ρ M fun ds M1 => uk ρ M1 fun es M2 => S (ds ++ es) M2 Q
def kwNames : List Keyword → List (Option Str)
  | [] => []
  | ⟨n, _, _⟩ :: r => n :: kwNames r
theorem kw_all {env : Env} {pos : Pos} : ∀ {kws : List Keyword} {ks : List Str}, kwNames kws = ks.map some → (backToKw pos (keywordEach kws env)).all (·.1.isSome) = true ∧ (backToKw pos (keywordEach kws env)).filterMap (·.1) = ks ∧ (backToKw pos (keywordEach kws env)).any (·.1.isNone) = false
  | [], [], _ => ⟨rfl, rfl, rfl⟩
  | [], _ :: _, h => by cases h
  | ⟨n, v, q⟩ :: r, [], h => by cases h
  | ⟨n, v, q⟩ :: r, k :: ks, h => by
    have h' : n :: kwNames r = some k :: ks.map some := h
    injection h' with h1 h2
    subst h1
    obtain ⟨a1, a2, a3⟩ := kw_all (env := env) (pos := pos) h2
    refine ⟨?_, ?_, ?_⟩
    · show (_ && (backToKw pos (keywordEach r env)).all (·.1.isSome)) = true
      rw [a1]; rfl
    · show k :: (backToKw pos (keywordEach r env)).filterMap (·.1) = k :: ks
      rw [a2]
    · show (_ || (backToKw pos (keywordEach r env)).any (·.1.isNone)) = false
      rw [a3]; rfl
theorem run_kw {n m : Nat} {S : Spec} {u uk : WA} {σ : St} {H : Hp} {Q : VK} (h : tD K (wCallK S u uk) σ H Q) : tDN K n u σ H fun vs H1 => tDN K m uk σ H1 fun zs H2 => vs.length = n ∧ zs.length = m ∧ rDL K S (vs ++ zs) H2 Q := by
  obtain ⟨ρ, M, F, Q0, s, q, g⟩ := h
  refine ⟨ρ, M, F, _, s, q, fun ds M1 vs H1 hl q1 t1 f1 r1 p1 => ⟨ρ, M1, F, _, s.next t1 f1 r1, q1, fun es M2 zs H2 hl2 q2 t2 f2 r2 p2 => ⟨hl, hl2, ds ++ es, M2, F, Q0, (p1.stay t2).append p2, r2, (s.fr.next f1).next f2, q2, (g.from t1 f1).from t2 f2⟩⟩⟩
theorem pd_callK {x : Str} {n : Nat} {ks : List Str} {S : Spec} {p : Pos} {e : Expr} {es : List Expr} {kws : List Keyword} {u uk : WA} (hx : Callee (co X) x n ks S) (hc : X.calm = true) (hg : Gl X x) (hdb : (x == ("__debug__" : Str)) = false) (ha : PA X (e :: es) (tDN X.K n u)) (hs : (e :: es).all notStar = true)
    (hk : PK X kws (tDN X.K ks.length uk)) (hks : kwNames kws = ks.map some) : PE X (.Call (.Name x p) (e :: es) kws pos) (tD X.K (wCallK S u uk)) := by
  obtain ⟨f, hm, hkp, run⟩ := hx
  obtain ⟨a1, a2, a3⟩ := kw_all (env := X.env) (pos := pos) hks
  refine ⟨fun pins s σ H Q I h => ?_⟩
  refine wpAny_Call_Name_kw (ld_glob I hg hm ?_ hdb)
  have hs' := hs
  rw [List.all_cons, Bool.and_eq_true] at hs'
  refine PySem.W.callWith_KW (h₀ := X.base) I.ok.mod.kin hkp a1 (thn (ha.run pos pins s σ H _ I (run_kw (m := ks.length) h)) fun us s1 ⟨vs, H1, I1, r, q⟩ => ?_) (by rw [back_any hs, a3]; rfl) (star_of hs'.1 _ _)
  refine thn (hk.run pos pins s1 σ H1 _ I1 q) fun ws s2 ⟨zs, H2, I2, rz, l1, l2, q2⟩ => ⟨I2.kIn, ?_⟩
  rw [a2]
  exact run X rfl hc pins s2 σ H2 Q us ws vs zs I2 r rz l1 l2 q2
theorem pd_callK0 {x : Str} {ks : List Str} {S : Spec} {p : Pos} {kws : List Keyword} {uk : WA} (hx : Callee (co X) x 0 ks S) (hc : X.calm = true) (hg : Gl X x) (hdb : (x == ("__debug__" : Str)) = false)
    (hk : PK X kws (tDN X.K ks.length uk)) (hks : kwNames kws = ks.map some) : PE X (.Call (.Name x p) [] kws pos) (tD X.K (wCallK S wNil uk)) := by
  obtain ⟨f, hm, hkp, run⟩ := hx
  obtain ⟨a1, a2, a3⟩ := kw_all (env := X.env) (pos := pos) hks
  refine ⟨fun pins s σ H Q I h => ?_⟩
  refine wpAny_Call_Name_kw (ld_glob I hg hm ?_ hdb)
  obtain ⟨ρ, M, F, Q0, s0, q, g⟩ := h
  refine PySem.W.callWith_KW0 (h₀ := X.base) I.ok.mod.kin hkp a1 (thn (hk.run pos pins s σ H (fun zs H2 => zs.length = ks.length ∧ rDL X.K S zs H2 Q) I ⟨ρ, M, F, _, s0, q, fun es M2 zs H2 hl2 q2 t2 f2 r2 p2 => ⟨hl2, es, M2, F, Q0, p2, r2, s0.fr.next f2, q2, g.from t2 f2⟩⟩) fun ws s2 ⟨zs, H2, I2, rz, l2, q2⟩ => ⟨I2.kIn, ?_⟩) (by rw [a3]; rfl)
  rw [a2]
  exact run X rfl hc pins s2 σ H2 Q [] ws [] zs I2 .nil rz rfl l2 q2
/-! ### fields -/
/-- a class whose instances have plain fields -/
structure Cf (K : PySem.W.Frag) (C : Addr) (f : Str) : Prop where
  cl : Cls K C
  no : NoAttr K C f
def fldD (C : Addr) (f : Str) : D → Mp → DQ → Prop := fun x M Q => ∃ a fs d, x = .ref a ∧ M a = some (.ins C fs) ∧ fs.lookup f = some d ∧ Q d M
theorem pd_fld {C : Addr} {f : Str} (h : Cf X.K C f) (ha : PE X a (tD X.K wa)) (hb : plainBase a = true) : PE X (.Attribute a f pos) (tD X.K (w1 (fldD C f) wa)) := (pe_fld ha (base_plain hb _ _ _)).imp fun σ H Q => by
  rintro ⟨ρ, M, F, Q0, s, q, g⟩
  refine ⟨ρ, M, F, _, s, q, fun x M1 v H1 q1 t1 f1 r1 p1 => ?_⟩
  obtain ⟨p, fs, d, rfl, e, l, q1⟩ := q1
  cases p1
  obtain ⟨dx, vs, e1, ps⟩ := r1 _ _ e
  obtain ⟨v, l1, rv⟩ := ps.lookup l
  exact ⟨p, C, dx, vs, v, rfl, e1, h.cl, h.no, l1, g _ M1 _ H1 q1 t1 f1 r1 rv⟩
def putD (f : Str) (v : D) : List (Str × D) → List (Str × D)
  | [] => [(f, v)]
  | (k, u) :: r => if k = f then (f, v) :: r else (k, u) :: putD f v r
end
end DL

set_option Elab.async false
set_option linter.all false
set_option maxRecDepth 100000
set_option maxHeartbeats 4000000
/-! DLh: methods of built-ins, fields stored, parallel stores; defs and classes as callees. -/
namespace DL
open PySem L2
variable {K : PySem.W.Frag}
section
variable {X : Cx} {a b c : Expr} {wa wb wc : WE} {pos apos : Pos}
/-! ### methods of built-ins -/
def tyD (T : String) (d : D) (M : Mp) : Prop := match d with
  | .str _ => T = "str"
  | .ref p => (T = "list" ∧ ∃ ds, M p = some (.lst ds)) ∨ (T = "dict" ∧ ((∃ kvs, M p = some (.dK kvs)) ∨ ∃ kvs, M p = some (.dT kvs)))
  | _ => False
theorem tyD_ok {T : String} {d : D} {M : Mp} {H : Hp} {v : V} (h : tyD T d M) (r : Rep K H d v) (m : RepM K H M) : tyV K T v H := by
  cases d <;> (try exact h.elim)
  · cases r; exact h
  · cases r
    rcases h with ⟨e, ds, h⟩ | ⟨e, ⟨ds, h⟩ | ⟨ds, h⟩⟩
    · obtain ⟨vs, h1, _⟩ := m _ _ h
      exact .inl ⟨e, vs, .of h1⟩
    · obtain ⟨vs, h1, _⟩ := m _ _ h
      exact .inr (.inr (.inl ⟨e, .inl ⟨vs, h1⟩⟩))
    · obtain ⟨vs, h1, _⟩ := m _ _ h
      exact .inr (.inr (.inl ⟨e, .inr ⟨vs, h1⟩⟩))
abbrev MSpec := D → List D → Mp → DQ → Prop
def rDM (K : PySem.W.Frag) (f : MSpec) : V → List V → Hp → VK → Prop := fun x xs H Q => ∃ dx ds M F Q0, Rep K H dx x ∧ Reps K H ds xs ∧ RepM K H M ∧ FrOk F H M ∧ f dx ds M Q0 ∧ Go K F H Q0 Q
theorem _root_.L2.MtR.lift {id : String} {r : V → List V → Hp → VK → Prop} {S : MSpec} (h : MtR X id r) (i : ∀ d ds M F H Q0 Q v vs, Rep X.K H d v → Reps X.K H ds vs → RepM X.K H M → FrOk F H M → S d ds M Q0 → Go X.K F H Q0 Q → r v vs H Q) : MtR X id (rDM X.K S) :=
  fun pins s σ H x xs v us Q I rx rv hh => by
    obtain ⟨d, ds, M, F, Q0, r0, r1, m, fr, hs, g⟩ := hh
    exact h pins s σ H x xs v us Q I rx rv (i d ds M F H Q0 Q x xs r0 r1 m fr hs g)
def wBm (T : String) (f : MSpec) (wo : WE) (u : WA) : WE := fun ρ M Q => wo ρ M fun x M1 => tyD T x M1 ∧ u ρ M1 fun ds M2 => f x ds M2 Q
theorem pd_bm0 {T id : String} {name : Str} {f : MSpec} (pa : PlainAttrs T) (slot : Slot T name id) (hty : typeOf (.builtin id) = pure (.type "method_descriptor")) (hm : MtR X id (rDM X.K f)) (ho : PE X a (tD X.K wa)) (hb : plainBase a = true) (hline : (apos.endLine == pos.line) = true) :
    PE X (.Call (.Attribute a name apos) [] [] pos) (tD X.K (wBm T f wa wNil)) := (pe_bm0 pa slot hty hm ho (base_plain hb _ _ _) hline).imp fun σ H Q => by
  rintro ⟨ρ, M, F, Q0, s, q, g⟩
  refine ⟨ρ, M, F, _, s, q, fun x M1 v H1 q1 t1 f1 r1 p1 => ⟨tyD_ok q1.1 p1 r1, x, [], M1, F, Q0, p1, .nil, r1, s.fr.next f1, q1.2, g.from t1 f1⟩⟩
theorem pd_bm {T id : String} {name : Str} {f : MSpec} {e : Expr} {es : List Expr} {u : WA} (pa : PlainAttrs T) (slot : Slot T name id) (hty : typeOf (.builtin id) = pure (.type "method_descriptor")) (hm : MtR X id (rDM X.K f)) (ho : PE X a (tD X.K wa)) (ha : PA X (e :: es) (tDA X.K u)) (hb : plainBase a = true)
    (hs : (e :: es).all notStar = true) (hl : (e :: es).length < 30) (hline : (apos.endLine == pos.line) = true) :
    PE X (.Call (.Attribute a name apos) (e :: es) [] pos) (tD X.K (wBm T f wa u)) := by
  have hs' := hs
  rw [List.all_cons, Bool.and_eq_true] at hs'
  refine (pe_bm pa slot hty hm ho ha (base_plain hb _ _ _) ?_ hline (star_of hs'.1 _ _) (back_any hs'.2)).imp fun σ H Q => ?_
  · have e1 : (backTo pos (starEach (e :: es) X.env)).all (fun x => !x.1) = true := by
      have := back_any (env := X.env) (pos := pos) hs
      rw [List.all_eq_true]
      intro x hx
      rw [List.any_eq_false] at this
      have := this x hx
      simpa using this
    rw [e1]
    have e2 : decide ((e :: es).length + ([] : List Keyword).length + (if ([] : List Keyword).isEmpty then 0 else 1) < 30) = true := by
      apply decide_eq_true
      simpa using hl
    rw [e2]
    rfl
  · rintro ⟨ρ, M, F, Q0, s, q, g⟩
    refine ⟨ρ, M, F, _, s, q, fun x M1 v H1 q1 t1 f1 r1 p1 => ⟨tyD_ok q1.1 p1 r1, ρ, M1, F, _, s.next t1 f1 r1, q1.2, fun ds M2 vs H2 q2 t2 f2 r2 p2 => ?_⟩⟩
    exact ⟨x, ds, M2, F, Q0, p1.stay t2, p2, r2, (s.fr.next f1).next f2, q2, (g.from t1 f1).from t2 f2⟩
def appendM : MSpec := fun x ds M Q => ∃ p xs y, x = .ref p ∧ ds = [y] ∧ M p = some (.lst xs) ∧ xs.length < sizeLine ∧ Q .non (up M p (.lst (xs ++ [y])))
theorem md_append : MtR X "list.append" (rDM X.K appendM) := MtR.lift (r := rAppend) mt_append fun d ds M F H Q0 Q v vs r0 r1 m fr h g => by
  obtain ⟨p, xs, y, rfl, rfl, e, hz, q⟩ := h
  cases r0
  obtain ⟨u, rfl, r2⟩ := r1.one
  obtain ⟨ws, e1, p1⟩ := m _ _ e
  exact ⟨p, ws, u, rfl, rfl, e1, by rw [← p1.length]; exact hz, g _ _ _ _ q (.lst e1) (fr.put e _) (m.put e ⟨_, upd_same, (p1.snoc r2).stay (.lst e1)⟩) rfl⟩
def extendM : MSpec := fun x ds M Q => ∃ p q xs ys, x = .ref p ∧ ds = [.ref q] ∧ M p = some (.lst xs) ∧ M q = some (.lst ys) ∧ xs.length + ys.length ≤ sizeLine ∧ Q .non (up M p (.lst (xs ++ ys)))
theorem md_extend : MtR X "list.extend" (rDM X.K extendM) := MtR.lift (r := rExtend) mt_extend fun d ds M F H Q0 Q v vs r0 r1 m fr h g => by
  obtain ⟨p, q, xs, ys, rfl, rfl, e, e', hz, h⟩ := h
  cases r0
  obtain ⟨u, rfl, r2⟩ := r1.one
  cases r2
  obtain ⟨ws, e1, p1⟩ := m _ _ e
  obtain ⟨zs, e2, p2⟩ := m _ _ e'
  exact ⟨p, q, ws, zs, rfl, rfl, e1, e2, by rw [← p1.length, ← p2.length]; exact hz, g _ _ _ _ h (.lst e1) (fr.put e _) (m.put e ⟨_, upd_same, (p1.append p2).stay (.lst e1)⟩) rfl⟩
theorem Reps.strs {H : Hp} : ∀ {bs : List Str} {vs : List V}, Reps K H (bs.map D.str) vs → vs = bs.map V.str
  | [], _, h => by unfold Reps at h; exact h
  | b :: bs, _, h => by
    unfold Reps at h
    obtain ⟨v, r, rfl, h1, h2⟩ := h
    cases h1
    rw [Reps.strs h2]
    rfl
def joinM : MSpec := fun x ds M Q => ∃ (z : Str) (d : D) (ys : List Str), x = .str z ∧ ds = [d] ∧ seqD M d (ys.map D.str) ∧ (ys.map (·.length)).sum + ys.length * z.length ≤ 16777216 ∧ Q (.str (Txt.join z ys)) M
theorem md_join : MtR X "str.join" (rDM X.K joinM) := mt_join.lift fun d ds M F H Q0 Q v vs r0 r1 m fr h g => by
  obtain ⟨z, d', ys, rfl, rfl, hs, hz, h⟩ := h
  cases r0
  obtain ⟨u, rfl, r2⟩ := r1.one
  rcases hs with rfl | ⟨p, rfl, e⟩
  · unfold Rep at r2
    obtain ⟨p, ws, rfl, s1, p1⟩ := r2
    rw [p1.strs] at s1
    exact ⟨z, p, ys, rfl, rfl, .inr s1, hz, g _ M _ H h (.refl _) fr.frm m rfl⟩
  · cases r2
    obtain ⟨ws, e1, p1⟩ := m _ _ e
    rw [p1.strs] at e1
    exact ⟨z, p, ys, rfl, rfl, .inl (.of e1), hz, g _ M _ H h (.refl _) fr.frm m rfl⟩
/-! ### fields stored -/
theorem Pairs.put {H : Hp} {f : Str} {d : D} {v : V} (r : Rep K H d v) : ∀ {ds : List (Str × D)} {vs : List (Str × V)}, Pairs K H ds vs → Pairs K H (putD f d ds) (putF f v vs)
  | [], _, h => by
    unfold Pairs at h; subst h
    unfold putD putF Pairs
    exact ⟨v, [], rfl, r, by unfold Pairs; rfl⟩
  | (k, e) :: ds, _, h => by
    unfold Pairs at h
    obtain ⟨u, q, rfl, h1, h2⟩ := h
    unfold putD putF
    by_cases hk : k = f
    · rw [if_pos hk, if_pos hk]
      unfold Pairs
      exact ⟨v, q, by rw [hk], r, h2⟩
    · rw [if_neg hk, if_neg hk]
      unfold Pairs
      exact ⟨u, _, rfl, h1, h2.put r⟩
def wFldS (C : Addr) (f : Str) (wo wv : WE) : WS := fun D0 ρ M => wv ρ M fun y M1 => wo ρ M1 fun x M2 => ∃ p fs, x = .ref p ∧ M2 p = some (.ins C fs) ∧ fs.length < 1000 ∧ D0.nx ρ (up M2 p (.ins C (putD f y fs)))
theorem psd_fld {C : Addr} {f : Str} {pos' : Pos} (h : Cf X.K C f) (ho : PE X a (tD X.K wa)) (hv : PE X b (tD X.K wb)) (hs : swapsWith b (some (.Attribute a f pos')) pos.line X.env = pure false) : PS X (.Assign [.Attribute a f pos'] b pos) (tDS X.K (wFldS C f wa wb)) :=
  (ps_fld ho hv hs).imp fun D σ H => by
    rintro ⟨ρ, M, F, D0, s, q, g⟩
    refine ⟨ρ, M, F, _, s, q, fun y M1 v H1 q1 t1 f1 r1 p1 => ⟨ρ, M1, F, _, s.next t1 f1 r1, q1, fun x M2 u H2 q2 t2 f2 r2 p2 => ?_⟩⟩
    obtain ⟨p, fs, rfl, e, hl, q2⟩ := q2
    cases p2
    obtain ⟨dx, vs, e1, ps⟩ := r2 _ _ e
    have fr2 := (s.fr.next f1).next f2
    have tt : TupS X.K H2 (upd H2 p (.ins C dx (putF f v vs))) := .ins e1
    have rm : RepM X.K (upd H2 p (.ins C dx (putF f v vs))) (up M2 p (.ins C (putD f y fs))) := r2.put e ⟨dx, _, upd_same, (ps.put (p1.stay t2)).stay tt⟩
    have ff := fr2.put (u := .ins C dx (putF f v vs)) e (.ins C (putD f y fs))
    refine ⟨p, C, dx, vs, rfl, e1, h.cl, h.no, by rw [← ps.length]; exact hl, ?_⟩
    exact g.nx ρ _ σ _ q2 ((t1.trans t2).trans tt) ((f1.trans f2).trans ff) (((s.next t1 f1 r1).next t2 f2 r2).next tt ff rm)
/-! ### parallel stores -/
def wPar (i j : Nat) (u : WA) : WS := fun D0 ρ M => u ρ M fun ds M1 => ∃ d e, ds = [d, e] ∧ D0.nx ((ρ.set i (some d)).set j (some e)) M1
def wPar3 (i j l : Nat) (u : WA) : WS := fun D0 ρ M => u ρ M fun ds M1 => ∃ d e f, ds = [d, e, f] ∧ D0.nx (((ρ.set i (some d)).set j (some e)).set l (some f)) M1
theorem psd_par {i j : Nat} {st : Stmt} {es : List Expr} {u : WA} (hp : ∀ t : TA, PA X es t → PS X st (tPar i j t)) (ha : PA X es (tDA X.K u)) : PS X st (tDS X.K (wPar i j u)) := (hp _ ha).imp fun D σ H => by
  rintro ⟨ρ, M, F, D0, s, q, g⟩
  refine ⟨ρ, M, F, _, s, q, fun ds M1 vs H1 q1 t1 f1 r1 p1 => ?_⟩
  obtain ⟨d, e, rfl, q1⟩ := q1
  obtain ⟨v, w, rfl, p2, p3⟩ := p1.two
  exact ⟨v, w, rfl, g.nx _ M1 _ H1 q1 t1 f1 (((s.next t1 f1 r1).set p2 i).set p3 j)⟩
theorem psd_par3 {i j l : Nat} {st : Stmt} {es : List Expr} {u : WA} (hp : ∀ t : TA, PA X es t → PS X st (tPar3 i j l t)) (ha : PA X es (tDA X.K u)) : PS X st (tDS X.K (wPar3 i j l u)) := (hp _ ha).imp fun D σ H => by
  rintro ⟨ρ, M, F, D0, s, q, g⟩
  refine ⟨ρ, M, F, _, s, q, fun ds M1 vs H1 q1 t1 f1 r1 p1 => ?_⟩
  obtain ⟨d, e, f, rfl, q1⟩ := q1
  unfold Reps at p1
  obtain ⟨v, vs, rfl, p2, p1'⟩ := p1
  obtain ⟨w, z, rfl, p3, p4⟩ := p1'.two
  exact ⟨v, w, z, rfl, g.nx _ M1 _ H1 q1 t1 f1 ((((s.next t1 f1 r1).set p2 i).set p3 j).set p4 l)⟩
/-! ### o[i] = v, o a list -/
def wSetI (wo wi wv : WE) : WS := fun D0 ρ M => wv ρ M fun y M1 => wo ρ M1 fun x M2 => wi ρ M2 fun z M3 => ∃ p ds k j, x = .ref p ∧ z = .int k ∧ M3 p = some (.lst ds) ∧ ixN ds.length k = some j ∧ D0.nx ρ (up M3 p (.lst (ds.set j y)))
theorem psd_setI {i : Expr} {wi : WE} {pos' : Pos} (ho : PE X a (tD X.K wa)) (hi : PE X i (tD X.K wi)) (hv : PE X b (tD X.K wb)) (hs : swapsWithSole [.Subscript a i pos'] b pos.line X.env = pure false) (hw : swappedStores [.Subscript a i pos'] b X.env = pure none) (hns : notSlice i = true) :
    PS X (.Assign [.Subscript a i pos'] b pos) (tDS X.K (wSetI wa wi wb)) := (ps_asg hv (pg_sub ho hi set_list (by intro v; cases i <;> first | rfl | cases hns)) hs hw rfl).imp fun D σ H => by
  rintro ⟨ρ, M, F, D0, s, q, g⟩
  refine ⟨ρ, M, F, _, s, q, fun y M1 v H1 q1 t1 f1 r1 p1 => ⟨ρ, M1, F, _, s.next t1 f1 r1, q1, fun x M2 u H2 q2 t2 f2 r2 p2 => ⟨ρ, M2, F, _, (s.next t1 f1 r1).next t2 f2 r2, q2, fun z M3 w H3 q3 t3 f3 r3 p3 => ?_⟩⟩⟩
  obtain ⟨p, ds, k, j, rfl, rfl, e, ej, q3⟩ := q3
  cases p2
  cases p3
  obtain ⟨vs, e1, ps⟩ := r3 _ _ e
  have fr3 := ((s.fr.next f1).next f2).next f3
  have tt : TupS X.K H3 (upd H3 p (.lst (vs.set j v))) := .lst e1
  have ff := fr3.put (u := .lst (vs.set j v)) e (.lst (ds.set j y))
  refine ⟨p, vs, k, j, rfl, rfl, e1, by rw [← ps.length]; exact ej, ?_⟩
  exact g.nx ρ _ σ _ q3 (((t1.trans t2).trans t3).trans tt) (((f1.trans f2).trans f3).trans ff) ((((s.next t1 f1 r1).next t2 f2 r2).next t3 f3 r3).next tt ff (r3.put e ⟨_, upd_same, (ps.set (p1.stay (t2.trans t3)) j).stay tt⟩))
/-! ### a def as a callee -/
theorem rDL.len {S : Spec} {n : Nat} (hS : ∀ ds M Q, S ds M Q → ds.length = n) {K : PySem.W.Frag} {vs : List V} {H : Hp} {Q : VK} (h : rDL K S vs H Q) : vs.length = n := by
  obtain ⟨ds, M, F, Q0, r, _, _, h, _⟩ := h
  rw [← r.length]
  exact hS _ _ _ h
theorem Callee.fn {c : Co} {x : Str} {n k : Nat} {S : Spec} {f : Addr} {fd : FuncData} {ps : List Str} (F : FnOk c.prog c.w c.K c.mg c.base CX0 k f fd ps (spD c.K S)) (hr : Room k c.A) (hm : c.mg x = some (.ref f)) (hk : PySem.W.keepIn c.K (.ref f) = true) (hb : Binds c.K fd ps []) : Callee c x n [] S := by
  refine ⟨f, hm, hk, ?_⟩
  rintro X rfl hc pins s σ H Q us ws vs zs I r rz hl hz h
  have e : zs = [] := List.eq_nil_of_length_eq_zero hz
  subst e
  cases rz
  rw [List.append_nil] at h
  exact run_fn (vs := vs) F hr hb .nil pass0 I r (by rw [List.append_nil]; exact h)
/-- by keywords: g puts places and keywords in the parameters' order -/
theorem Callee.fnK {c : Co} {x : Str} {n k : Nat} {ks : List Str} {S S' : Spec} {f : Addr} {fd : FuncData} {ps : List Str} {g : List Value → List Value → List Value} {gV : List V → List V → List V} (F : FnOk c.prog c.w c.K c.mg c.base CX0 k f fd ps (spD c.K S)) (hr : Room k c.A) (hm : c.mg x = some (.ref f)) (hk : PySem.W.keepIn c.K (.ref f) = true)
    (hb : KBinds c.K fd ps ks g gV) (hS : ∀ vs zs H Q, vs.length = n → zs.length = ks.length → rDL c.K S' (vs ++ zs) H Q → rDL c.K S (gV vs zs) H Q) : Callee c x n ks S' := by
  refine ⟨f, hm, hk, ?_⟩
  rintro X rfl hc pins s σ H Q us ws vs zs I r rz hl hz h
  exact run_fnk (vs := vs) (zs := zs) F hr hb pass0 I r rz (hS vs zs H Q hl hz h)
/-- a class as a callee: the promise of its __init__ at the new instance -/
def makeS (C : Addr) (S : Spec) (gD : List D → List D) : Spec := fun ds M Q => ∀ x, M x = none → S (gD (.ref x :: ds)) (up M x (.ins C [])) fun d M' => d = .non ∧ Q (.ref x) M'
theorem Callee.makeK {c : Co} {x : Str} {n k : Nat} {ks : List Str} {S : Spec} {f C : Addr} {fd : FuncData} {ps : List Str} {g : List Value → List Value → List Value} {gV : List V → List V → List V} {gD : List D → List D} (Mk' : Mk c.K C f) (F : FnOk c.prog c.w c.K c.mg c.base CX0 k f fd ps (spD c.K S)) (hr : Room (k + 1) c.A) (hm : c.mg x = some (.ref C))
    (hb : KBn c.K fd ps (n + 1) ks g gV) (hg : ∀ H ds vs zs, vs.length = n → zs.length = ks.length → Reps c.K H ds (vs ++ zs) → ∀ x, Reps c.K H (gD (.ref x :: ds)) (gV (.ref x :: vs) zs)) : Callee c x n ks (makeS C S gD) := by
  refine ⟨C, hm, Mk'.kp, ?_⟩
  rintro X rfl hc pins s σ H Q us ws vs zs I r rz hl hz h
  refine run_makeK (vs := vs) (zs := zs) Mk' F hr hb pass0 I r rz hl hz fun p dx hp hdx hne => ?_
  obtain ⟨ds, M, F', Q0, rd, m, fr, h, go⟩ := h
  have n1 : upd H dx (.own p) p = none := by rw [upd_ne (Ne.symm hne)]; exact hp
  have t1 : TupS X.K H (upd H dx (.own p)) := .new hdx
  have t2 : TupS X.K (upd H dx (.own p)) (upd (upd H dx (.own p)) p (.ins C dx [])) := .new n1
  have m2 : RepM X.K (upd (upd H dx (.own p)) p (.ins C dx [])) (up M p (.ins C [])) := (m.more hdx).new n1 ⟨dx, [], upd_same, by unfold Pairs; rfl⟩
  have f1 : Frm F' H (upd H dx (.own p)) M := fr.more hdx
  have f2 := (fr.next f1).new (u := .ins C dx []) n1 (.ins C [])
  refine ⟨gD (.ref p :: ds), up M p (.ins C []), F', _, ((hg H ds vs zs hl hz rd p).stay t1).stay t2, m2, (fr.next f1).next f2, h p (m.none hp), fun d M' v H' q t f r' p' => ?_⟩
  obtain ⟨rfl, q⟩ := q
  exact ⟨p', go _ M' _ H' q ((t1.trans t2).trans t) ((f1.trans f2).trans f) r' rfl⟩
end
end DL

set_option Elab.async false
set_option linter.all false
set_option maxRecDepth 100000
set_option maxHeartbeats 8000000
/-! DLq: a long numeral read. -/
namespace DL
open PySem PySem.Calls PySem.NumText PyProof.Rows
theorem wp_most {M : Model} {A : Around} {E : Value → Shared → Prop} {s : Shared} {Q : Nat → Shared → Prop} (hd : s.heap.NoDigits) (h : Q 4300 s) : wpAny M A Builtin.intMaxStrDigits Q E s := by
  obtain ⟨mc, hns, hnone⟩ := hd
  unfold Builtin.intMaxStrDigits
  refine wpAny_bind (wpAny_nsGet hns ?_)
  rw [hnone]
  exact wpAny_pure h
theorem wp_textL {M : Model} {A : Around} {E : Value → Shared → Prop} {s : Shared} {Q : Value → Shared → Prop} {v : Value} {text : List Nat} {n : Int} (hd : s.heap.NoDigits)
    (hs : ¬ (text.takeWhile (· != 0)).length ≤ 640) (hr : (int_private% "readNumeral") 4300 10 (text.takeWhile (· != 0)) = (int_private% "Numeral.value") n)
    (ha : ((text.takeWhile (· != 0)).length == text.length) = true) (h : Q (.int n s.toks) { s with toks := s.toks + 1 }) :
    wpAny M A ((int_private% "intFromText") v text 10) Q E s := by
  obtain ⟨hp, g, d, tk, os⟩ := s
  repeat (any_goals (first
    | assumption
    | (with_reducible refine wpAny_ite_false (decide_eq_false hs) ?_)
    | (with_reducible refine wpAny_ite_true (decide_eq_true ha) ?_)
    | (with_reducible refine wp_most hd ?_)
    | wp_step))
  all_goals (try rw [hr])
  all_goals (try dsimp only)
  repeat (any_goals (first
    | assumption
    | (with_reducible refine wpAny_ite_true (decide_eq_true ha) ?_)
    | wp_step))
/-- 1 and 900 noughts -/
def bigT : PySem.Str := ("1" : PySem.Str) ++ Txt.mul "0" 900
theorem rep_signs : ∀ (n : Nat) (acc : Array Nat), ((List.replicate n (#[48] : Array Nat)).foldl (· ++ ·) acc).toList = acc.toList ++ List.replicate n 48
  | 0, acc => by simp
  | n + 1, acc => by
    rw [List.replicate_succ, List.foldl_cons, rep_signs n]
    simp [List.replicate_succ]
theorem bigT_signs : bigT.cps.toList = 49 :: List.replicate 900 48 := by
  have e : bigT.cps = ("1" : PySem.Str).cps ++ (Txt.mul "0" 900).cps := rfl
  have e2 : (Txt.mul "0" 900).cps = (List.replicate 900 (#[48] : Array Nat)).foldl (· ++ ·) #[] := by
    unfold Txt.mul
    rw [if_neg (by decide), if_neg (by decide)]
    rfl
  rw [e, Array.toList_append, e2, rep_signs]
  rfl
theorem big_dig : AllDigits bigT.cps.toList := by
  rw [bigT_signs]
  intro c hc
  rcases List.mem_cons.mp hc with rfl | hc
  · decide
  · rw [(List.mem_replicate.mp hc).2]; decide
theorem bigT_len : bigT.length = 901 := by
  have e : bigT.length = bigT.cps.toList.length := Array.length_toList.symm
  rw [e, bigT_signs, List.length_cons, List.length_replicate]
theorem val_rep : ∀ (n acc : Nat), (List.replicate n 48).foldl (fun acc c => acc * 10 + (c - 48)) acc = acc * 10 ^ n
  | 0, acc => by simp
  | n + 1, acc => by
    rw [List.replicate_succ, List.foldl_cons, val_rep n, Nat.pow_succ]
    show (acc * 10 + 0) * 10 ^ n = _
    rw [Nat.add_zero, Nat.mul_assoc, Nat.mul_comm 10]
theorem big_val : intText? bigT = some potTop := by
  rw [intText_digits big_dig (by rw [bigT_signs]; exact List.cons_ne_nil _ _) (by rw [bigT_len]; decide), bigT_signs]
  have e : digitsVal (49 :: List.replicate 900 48) = 10 ^ 900 := by
    unfold digitsVal
    rw [List.foldl_cons, val_rep]
    show (0 * 10 + 1) * 10 ^ 900 = _
    rw [Nat.zero_mul, Nat.zero_add, Nat.one_mul]
  rw [e]
  unfold potTop
  rw [Int.natCast_pow]
  rfl
theorem big_both : numTextOf bigT = bigT.cps.toList ∧ numSeenOf bigT = bigT.cps.toList := numText_signs fun c hc => .inr (big_dig c hc)
theorem big_seen : ¬ (numSeenOf bigT).length ≤ 640 := by
  rw [big_both.2, bigT_signs, List.length_cons, List.length_replicate]; decide
theorem big_read : (int_private% "readNumeral") 4300 10 (numSeenOf bigT) = (int_private% "Numeral.value") potTop ∧ ((numSeenOf bigT).length == (numTextOf bigT).length) = true := by
  rcases read4300 bigT (by rw [bigT_len, sizeLine_eq]; decide) with ⟨n, h1, h2, h3⟩ | h
  · rw [big_val] at h1
    injection h1 with h1
    rw [h1]
    exact ⟨h3, h2⟩
  · rw [big_val] at h
    simp at h
theorem meets_big {u : Tok} : Meets (Builtin.«int.__new__» ⟨[.type "int", .str bigT u], []⟩) (fun _ R s => s.heap.NoDigits ∧ R (.ok (.ret (.int potTop s.toks))) { s with toks := s.toks + 1 }) :=
  Meets.of_wp fun prog w A R s h => by
    obtain ⟨hp, g, d, tk, os⟩ := s
    obtain ⟨hd, h⟩ := h
    have hd : Shared.heap ⟨hp, g, d, tk, os⟩ |>.NoDigits := hd
    have f1 := F.conv_sub_int
    have f2 := F.madeHere_int
    have f3 := PySem.W.KIN.str_int
    have f4 := PySem.W.KIN.str_idx
    have f5 := PySem.W.KIN.str_trunc
    have hk := PySem.W.KIN.Hid.mk (And.intro big_seen big_read)
    generalize potTop = pt at hk h ⊢
    generalize bigT = x at hk ⊢
    have f6 : typeOf (.str x u) = pure (.type "str") := rfl
    repeat (any_goals (first
      | assumption
      | ((with_reducible show wpAny _ _ ((int_private% "intFromText") _ _ _) _ _ _); refine wp_textL hd hk.out.1 hk.out.2.1 hk.out.2.2 ?_)
      | wp_step))
    all_goals first | exact ⟨_, rfl, h⟩ | exact h | skip
open L2 in
theorem cd_big {X : Cx} (hd : X.base.NoDigits) : CallR X (.type "int") (fun xs H Q => xs = [.str bigT] ∧ Q (.int potTop) H) := by
  intro pins s σ H xs us Q I rs h
  obtain ⟨rfl, h⟩ := h
  cases rs with
  | cons r1 rs =>
    cases rs
    obtain ⟨t, rfl⟩ := r1
    exact call_int_1 meets_big ⟨hd.keeps I.bk, rfl, ⟨.int potTop, H, I.tok _, ⟨_, rfl⟩, h⟩⟩
end DL

set_option Elab.async false
set_option linter.all false
set_option maxRecDepth 100000
set_option maxHeartbeats 8000000
/-! DLr: ==, !=, len of own instances; repr. -/
namespace DL
open PySem PySem.Spec PyProof.Rows L2
section
open PySem.W
variable {prog : Program} {w : World} {A : Around} {E : Value → Shared → Prop} {s : Shared} {K : Frag} {x f C L : Addr} {h₀ : Heap} {m : Str → Option Value} {ox : Obj} {od : Option Obj} {b tb : Value}
theorem ne_slot : Slot "object" "__ne__" "object.__ne__" := F.cmp_object.ne
/-- x != b where the class has its own __eq__, and __ne__ is object's -/
theorem ne_own {Q : Value → Shared → Prop} (hu : A.units + 1 < cLine) (X : K.In s.heap) (I : InstAt s.heap x ox C od) (hb : Looks (model prog w) s.heap (typeOf b) tb) (hn : notFirst K C tb = true)
    (hs : findIn K (.ref C) "__ne__" = some (some (.builtin "object.__ne__"))) (ho : subIn K (.ref C) (.type "object") = some true) (he : findIn K (.ref C) "__eq__" = some (some (.ref f))) (hf : isFn K (.ref f) = true)
    (h : wpAny (model prog w) A.in1 (call (.ref f) [.ref x, b]) (fun v s' => ∃ t : Bool, v = .bool t ∧ Q (.bool (!t)) s') E s) : wpAny (model prog w) A (richCompare .NotEq (.ref x) b) Q E s := by
  have one : wpAny (model prog w) A (tryCompare (.ref x) "__ne__" b) (fun r s' => ∃ v, r = some v ∧ Q v s') E s := by
    unfold tryCompare
    refine wpAny_bind ?_
    have isO : Looks (model prog w) s.heap (isInstance (.ref x) (.type "object")) true := I.type.andThen (looks_subIn X ho)
    have body : wpAny (model prog w) A (call (.builtin "object.__ne__") ([.ref x] ++ [b])) (fun v s' => ∃ t : Bool, v = .bool t ∧ Q (.bool t) s') E s := by
      refine wpAny_call (codeAny_call_builtin ne_slot.plain F.cmpEntry_ne ?_)
      refine check_slot F.cmpKind_ne F.cmpSplit_ne isO (F.cmpArgs_ne _ _) ?_
      unfold Builtin.«object.__ne__»
      refine wpAny_bind (m := slotArgs "__ne__" 1 _) (wpAny_pure ?_)
      refine wpAny_bind (wpAny_cRoomFor hu ?_)
      refine wpAny_bind (ifBound_K X I he hf (wpAny_mono h (fun v s' hv => ?_) fun _ _ e => e))
      obtain ⟨t, rfl, hq⟩ := hv
      exact wpAny_bind (wpAny_pure (wpAny_pure ⟨!t, rfl, hq⟩))
    simp only [callSpecialIfBound?, bindSpecialIfBound?]
    refine wpAny_holding (wpAny_bind (wpAny_bind (wpAny_bind (I.type.here ((looks_findIn X hs).here ?_)))))
    refine wpAny_bind (wpAny_askSetting (wpAny_ite ?_))
    rw [ne_slot.bind]
    split
    · exact wpAny_bind (wpAny_pure (wpAny_pure (by
      show wpAny (model prog w) A (call (.builtin "object.__ne__") ([.ref x] ++ [b]) >>= fun v => pure (some v)) _ E s
      exact wpAny_bind (wpAny_mono body (fun v s' h' => by obtain ⟨t, rfl, hq⟩ := h'; exact wpAny_pure (wpAny_pure ⟨_, rfl, hq⟩)) fun _ _ h' => h'))))
    · exact wpAny_tryCatch (wpAny_bind (wpAny_pure (wpAny_pure (by
      show wpAny (model prog w) A (call (.builtin "object.__ne__") ([.ref x] ++ [b]) >>= fun v => pure (some v)) _ E s
      exact wpAny_bind (wpAny_mono body (fun v s' h' => by obtain ⟨t, rfl, hq⟩ := h'; exact wpAny_pure (wpAny_pure ⟨_, rfl, hq⟩)) fun _ _ h' => h')))))
  unfold richCompare
  simp only [oneThing_ref]
  refine wpAny_holding (wpAny_bind (wpAny_cRoomFor (by omega) ?_))
  refine wpAny_bind (I.type.here (wpAny_bind (hb.here ?_)))
  split
  · rename_i q
    have e : subIn K tb (.ref C) = some false := by
      rcases Bool.or_eq_true_iff.mp hn with e | e
      · rw [beq_iff_eq.mp e] at q; simp at q
      · exact beq_iff_eq.mp e
    refine wpAny_bind ((looks_subIn X e).here ?_)
    simp only [Bool.false_eq_true, if_false]
    refine wpAny_bind (wpAny_mono one (fun r s' z => ?_) fun _ _ e => e)
    obtain ⟨v, rfl, hq⟩ := z
    exact wpAny_pure hq
  · refine wpAny_bind (wpAny_pure ?_)
    simp only [Bool.false_eq_true, if_false]
    refine wpAny_bind (wpAny_mono one (fun r s' z => ?_) fun _ _ e => e)
    obtain ⟨v, rfl, hq⟩ := z
    exact wpAny_pure hq
end
end DL

set_option Elab.async false
set_option linter.all false
set_option maxRecDepth 100000
set_option maxHeartbeats 8000000
/-! DLr2: the same over data. -/
namespace DL
open PySem PySem.Spec PyProof.Rows L2
section
variable {X : Cx} {k : Nat} {f C : Addr} {fd : FuncData} {ps : List Str} {S : Spec}
/-- the callee runs, around it a built-in -/
theorem run_at {A : Around} {pins : List (Addr × Obj)} {σ : L2.St} {H : Hp} {s : Shared} {Q : VK} {us : List Value} {vs : List V} (F : FnOk X.prog X.w X.K X.mg X.base CX0 k f fd ps (spD X.K S)) (hr : Room k A) (hf : A.frames = X.A.frames) (hb : Binds X.K fd ps [])
    (I : Inv X pins σ H s) (r : Vals vs us) (h : rDL X.K S vs H Q) : wpAny (model X.prog X.w) A (call (.ref f) us) (EP X pins σ Q) X.xe s := by
  have e0 : Env0 X.prog X.w X.K X.mg X.base A X.stack s H := by
    have e := I.env0
    exact ⟨by rw [hf]; exact e.frames, e.mod, e.bs, e.bsz, e.funs, e.frf, e.hok, e.bare⟩
  have hl : us.length = ps.length := by rw [← r.length]; exact F.len _ _ _ (fun _ _ _ => False) h
  have hb' := hb s us I.kIn (by rw [List.append_nil]; exact hl)
  rw [List.append_nil] at hb'
  refine wpAny_call (codeAny_mono (F.run A X.stack s H ⟨us, []⟩ us vs Q (fun _ _ _ => False) hr e0 hb' r h) fun r s' hq => ?_)
  cases r with
  | error e => exact pass0 pins σ H s e s' I hq
  | ok fl =>
    cases fl with
    | ret u => exact I.after hq
    | next => exact False.elim hq
    | brk => exact False.elim hq
    | cont => exact False.elim hq
/-- a class with a special method of its own -/
structure OwnM (k : Co) (C : Addr) (m : Str) (S : Spec) : Prop where
  ex : ∃ (n : Nat) (f : Addr) (fd : FuncData) (ps : List Str), FnOk k.prog k.w k.K k.mg k.base CX0 n f fd ps (spD k.K S) ∧ Room (n + 1) k.A ∧ Binds k.K fd ps [] ∧ PySem.W.findIn k.K (.ref C) m = some (some (.ref f)) ∧ PySem.W.isFn k.K (.ref f) = true
structure NeM (k : Co) (C : Addr) : Prop where
  ne : PySem.W.findIn k.K (.ref C) "__ne__" = some (some (.builtin "object.__ne__"))
  ob : PySem.W.subIn k.K (.ref C) (.type "object") = some true
def eqOD (C : Addr) (S : Spec) (neg : Bool) : D → D → Mp → DQ → Prop := fun x y M Q => ∃ a b fs gs, x = .ref a ∧ y = .ref b ∧ M a = some (.ins C fs) ∧ M b = some (.ins C gs) ∧ S [x, y] M fun d M' => ∃ t, d = .bl t ∧ Q (.bl (negB neg t)) M'
theorem od_eqO (o : OwnM (co X) C "__eq__" S) : OpR X (compareOp .Eq) (rD X.K (eqOD C S false)) := fun pins s σ H x y v u Q I rx ry h => by
  obtain ⟨n, f, fd, ps, F, hr, hb, hs, hf⟩ := o.ex
  obtain ⟨dx, dy, M, F', Q0, r1, r2, m, fr, ⟨a, b, fs, gs, rfl, rfl, ha, hb', h⟩, g⟩ := h
  cases r1; cases r2
  obtain ⟨d1, vs, e1, _⟩ := m _ _ ha
  obtain ⟨d2, ws, e2, _⟩ := m _ _ hb'
  cases rx; cases ry
  obtain ⟨mA, J, _⟩ := ins_get I.hok e1
  obtain ⟨mB, J', _⟩ := ins_get I.hok e2
  obtain ⟨od, J, _⟩ := J.look
  obtain ⟨od', J', _⟩ := J'.look
  obtain ⟨m1, hF⟩ := I.fr
  have hu : X.A.units < cLine := hr.units0
  show wpAny _ _ (richCompare .Eq _ _) _ _ _
  refine PySem.W.cmp_K (op := .Eq) (tb := .ref C) hu hF I.ok.mod.kin J J'.type (by simp [PySem.W.notFirst]) hs hf ?_
  refine wpAny_mono (run_at F (hr.mono (Nat.le_succ _)) rfl hb I (vs := [.ref a, .ref b]) (Q := fun v H' => ∃ t, v = .bl t ∧ Q (.bl t) H') (.cons rfl (.cons rfl .nil)) ⟨[.ref a, .ref b], M, F', _, .cons rfl (.cons rfl .nil), m, fr, h, fun d M' v H' q t f r p => ?_⟩) (fun v s' q => ?_) fun _ _ z => z
  · obtain ⟨tt, rfl, q⟩ := q
    cases p
    exact ⟨tt, rfl, g _ M' _ H' q t f r rfl⟩
  · obtain ⟨v, H', I', rv, tt, rfl, q⟩ := q
    cases rv
    exact ⟨.bl tt, H', I', rfl, q⟩
theorem od_neO (o : OwnM (co X) C "__eq__" S) (o2 : NeM (co X) C) : OpR X (compareOp .NotEq) (rD X.K (eqOD C S true)) := fun pins s σ H x y v u Q I rx ry h => by
  obtain ⟨n, f, fd, ps, F, hr, hb, hs, hf⟩ := o.ex
  obtain ⟨dx, dy, M, F', Q0, r1, r2, m, fr, ⟨a, b, fs, gs, rfl, rfl, ha, hb', h⟩, g⟩ := h
  cases r1; cases r2
  obtain ⟨d1, vs, e1, _⟩ := m _ _ ha
  obtain ⟨d2, ws, e2, _⟩ := m _ _ hb'
  cases rx; cases ry
  obtain ⟨mA, J, _⟩ := ins_get I.hok e1
  obtain ⟨mB, J', _⟩ := ins_get I.hok e2
  obtain ⟨od, J, _⟩ := J.look
  obtain ⟨od', J', _⟩ := J'.look
  have hu : X.A.units + 1 < cLine := by have := hr.un; have e : (co X).A.units = X.A.units := rfl; omega
  show wpAny _ _ (richCompare .NotEq _ _) _ _ _
  refine ne_own (tb := .ref C) hu I.kIn J J'.type (by simp [PySem.W.notFirst]) o2.ne o2.ob hs hf ?_
  refine wpAny_mono (run_at F hr.in1 rfl hb I (vs := [.ref a, .ref b]) (Q := fun v H' => ∃ t, v = .bl t ∧ Q (.bl (!t)) H') (.cons rfl (.cons rfl .nil)) ⟨[.ref a, .ref b], M, F', _, .cons rfl (.cons rfl .nil), m, fr, h, fun d M' v H' q t f r p => ?_⟩) (fun v s' q => ?_) fun _ _ z => z
  · obtain ⟨tt, rfl, q⟩ := q
    cases p
    exact ⟨tt, rfl, g _ M' _ H' q t f r rfl⟩
  · obtain ⟨v, H', I', rv, tt, rfl, q⟩ := q
    cases rv
    exact ⟨tt, rfl, ⟨.bl (!tt), H', I', rfl, q⟩⟩
def lenOS (C : Addr) (S : Spec) : Spec := fun ds M Q => ∃ a fs, ds = [.ref a] ∧ M a = some (.ins C fs) ∧ S [.ref a] M fun d M' => ∃ n : Int, d = .int n ∧ 0 ≤ n ∧ n < 2 ^ 63 ∧ Q (.int n) M'
theorem cd_lenO (o : OwnM (co X) C "__len__" S) : CallR X (.builtin "len") (rDL X.K (lenOS C S)) := fun pins s σ H xs us Q I rv h => by
  obtain ⟨n, f, fd, ps, F, hr, hb, hs, hf⟩ := o.ex
  obtain ⟨ds, M, F', Q0, r1, m, fr, ⟨a, fs, rfl, ha, h⟩, g⟩ := h
  obtain ⟨v, rfl, rr⟩ := r1.one
  cases rr
  obtain ⟨u, rfl, ru⟩ := vals1 rv
  obtain rfl : u = Value.ref a := ru
  obtain ⟨d1, vs, e1, _⟩ := m _ _ ha
  obtain ⟨mA, J, _⟩ := ins_get I.hok e1
  obtain ⟨od, J, _⟩ := J.look
  obtain ⟨m1, hF⟩ := I.fr
  refine PySem.W.len_K hF I.ok.mod.kin J hs hf ?_
  refine wpAny_mono (run_at F hr.in1 rfl hb I (vs := [.ref a]) (Q := fun v H' => ∃ n : Int, v = .int n ∧ 0 ≤ n ∧ n < 2 ^ 63 ∧ Q (.int n) H') (.cons rfl .nil) ⟨[.ref a], M, F', _, .cons rfl .nil, m, fr, h, fun d M' v H' q t f r p => ?_⟩) (fun v s' q => ?_) fun _ _ z => z
  · obtain ⟨tt, rfl, h0, h1, q⟩ := q
    cases p
    exact ⟨tt, rfl, h0, h1, g _ M' _ H' q t f r rfl⟩
  · obtain ⟨v, H', I', rv, tt, rfl, h0, h1, q⟩ := q
    obtain ⟨t, rfl⟩ := rv
    exact ⟨⟨h0, h1⟩, ⟨.int tt, H', I'.tok _, ⟨_, rfl⟩, q⟩⟩
/-! ### repr of a tuple -/
mutual
theorem nodict : ∀ d : D, (py d).hasDict = false
  | .non => by unfold py PyData.hasDict; rfl
  | .bl _ => by unfold py PyData.hasDict; rfl
  | .int _ => by unfold py PyData.hasDict; rfl
  | .str _ => by unfold py PyData.hasDict; rfl
  | .ty _ => by unfold py PyData.hasDict; rfl
  | .ref _ => by unfold py PyData.hasDict; rfl
  | .tup ds => by unfold py PyData.hasDict; exact nodicts ds
theorem nodicts : ∀ ds : List D, PyData.hasDictAll (pys ds) = false
  | [] => by unfold pys PyData.hasDictAll; rfl
  | d :: ds => by unfold pys PyData.hasDictAll; rw [nodict d, nodicts ds]; rfl
end
def reprS0 : Spec := fun ds M Q => ∃ xs, ds = [.tup xs] ∧ plains xs = true ∧ (py (.tup xs)).showable = true ∧ (py (.tup xs)).depth ≤ 60 ∧ (py (.tup xs)).shown.length ≤ sizeLine ∧ Q (.str (py (.tup xs)).shown) M
def boolT (b : Bool) : Str := if b then "True" else "False"
/-- repr of a tuple, of a truth, of None -/
def reprS : Spec := fun ds M Q => reprS0 ds M Q ∨ (∃ b : Bool, ds = [.bl b] ∧ Q (.str (boolT b)) M) ∨ (ds = [.non] ∧ Q (.str "None") M)
theorem cd_repr0 (hg : X.A.guards = some []) (hu : Ru X) : CallR X (.builtin "repr") (rDL X.K reprS0) := fun pins s σ H xs us Q I rv h => by
  obtain ⟨ds, M, F', Q0, r1, m, fr, ⟨xs, rfl, hp, hs, hd, hz, q⟩, g⟩ := h
  obtain ⟨v, rfl, rr⟩ := r1.one
  have rr' := rr
  unfold Rep at rr
  obtain ⟨a, ws, rfl, _, _⟩ := rr
  obtain ⟨u, rfl, ru⟩ := vals1 rv
  obtain ⟨as, e1⟩ := Dp.reads I (py (.tup xs)) _ u ((Dat.plain (M := M) (d := .tup xs) (by unfold plain; exact hp)).dp m rr') ru
  obtain rfl : u = Value.ref a := ru
  refine repr_of_reads' e1 hs (fun z => by rw [nodict] at z; cases z) hg (by have := hu; omega) (fun _ _ e => e) (fun h' u tk kp => ?_) hz
  exact ⟨.str _, H, I.kept kp, ⟨_, rfl⟩, g _ M _ H q (.refl _) fr.frm m rfl⟩
theorem cd_repr (hg : X.A.guards = some []) (hu : Ru X) : CallR X (.builtin "repr") (rDL X.K reprS) := fun pins s σ H xs us Q I rv h => by
  obtain ⟨ds, M, F', Q0, r1, m, fr, h | ⟨b, rfl, q⟩ | ⟨rfl, q⟩, g⟩ := h
  · exact cd_repr0 hg hu pins s σ H xs us Q I rv ⟨ds, M, F', Q0, r1, m, fr, h, g⟩
  · obtain ⟨v, rfl, rr⟩ := r1.one
    cases rr
    obtain ⟨u, rfl, ru⟩ := vals1 rv
    obtain rfl : u = Value.bool b := ru
    exact P.repr_of_bool ⟨.str (boolT b), H, I.tok _, ⟨_, by unfold boolT; cases b <;> rfl⟩, g _ M _ H q (.refl _) fr.frm m rfl⟩
  · obtain ⟨v, rfl, rr⟩ := r1.one
    cases rr
    obtain ⟨u, rfl, ru⟩ := vals1 rv
    obtain rfl : u = Value.none := ru
    exact P.repr_of_none ⟨.str "None", H, I.tok _, ⟨_, rfl⟩, g _ M _ H q (.refl _) fr.frm m rfl⟩
/-! ### int("1" + "0" * 900) -/
theorem op_mul_str : OpR X (binaryOp .Mult) (fun x y H Q => x = .str "0" ∧ y = .int 900 ∧ Q (.str (Txt.mul "0" 900)) H) := fun pins s σ H x y v u Q I rx ry h => by
  obtain ⟨rfl, rfl, h⟩ := h
  obtain ⟨t, rfl⟩ := rx
  obtain ⟨t2, rfl⟩ := ry
  exact SB.mul ⟨by decide, by decide, by decide +kernel⟩ fun t' k => ⟨.str _, H, I.tok k, ⟨_, rfl⟩, h⟩
theorem bigL : (Txt.mul "0" 900).length = 900 := by
  have h := bigT_len
  have e : bigT.length = ("1" : PySem.Str).length + (Txt.mul "0" 900).length := strLen_append _ _
  rw [e] at h
  have e1 : ("1" : PySem.Str).length = 1 := by decide
  omega
end
end DL

set_option Elab.async false
set_option linter.all false
set_option maxRecDepth 100000
set_option maxHeartbeats 4000000
/-! DLs: dict comprehensions, whatever the keys' kind: HandS.DictComp's rule with the step d[k] = v left open (its proof is followed). -/
namespace DL
open PySem PySem.Spec PyProof.Rows L2
section
variable {X : Cx}
/-- what the step d[y] = z does to the heap, in any block of X -/
def PutR (X : Cx) (Pt : Addr → V → V → Hp → Hp → Prop) : Prop := ∀ (Y : Cx), Y.prog = X.prog → Y.w = X.w → Y.K = X.K → Y.A = X.A → ∀ (pins : List (Addr × Obj)) (σ : L2.St) (H H' : Hp) (s : Shared) (D : Addr) (y z : V) (u r : Value) (E : Value → Shared → Prop) (Q : Unit → Shared → Prop),
  Inv Y pins σ H s → Pt D y z H H' → RelV y u → RelV z r → (∀ s', Inv Y pins σ H' s' → Q () s') → wpAny (model Y.prog Y.w) Y.A (dictSet D u r) Q E s
def tDcx (u0 : Addr → HO) (Pt : Addr → V → V → Hp → Hp → Prop) (wi : TI) (g : TG) (tt : TT) (tk tv : TE) (vs : List Nat) : TE := fun σ H Q => wi σ H fun J H1 => ∀ D, H1 D = none → ∃ W : Nat → Nat → Hp → Prop, (∃ m, W 0 m (upd H1 D (u0 D))) ∧ ∀ i m H, W i m H →
  (J.stop i H ∧ Q (.ref D) H) ∨ (J.go i H ∧ ∃ Nx : Hp → Prop, (∀ H', Nx H' → ∃ m', m' < m ∧ W (i + 1) m' H') ∧ ∀ x H', J.yld i H x H' → g x (wipe σ vs) H' fun σ2 H2 => wipe σ2 vs = wipe σ vs ∧ tt σ2 H2 fun b H3 =>
    if b = true then tk σ2 H3 fun y H4 => tv σ2 H4 fun z H5 => ∃ H6, Pt D y z H5 H6 ∧ Nx H6 else Nx H3)
theorem dcx_core {u0 : Addr → HO} {Pt : Addr → V → V → Hp → Hp → Prop} (h0 : ∀ (H : Hp) (h : Heap), sysModules < h.objs.size → ObjOk X.prog X.w H (h.push { cls := .type "dict", data := .dict #[] }) h.objs.size (u0 h.objs.size)) (hput : PutR X Pt) {pins : List (Addr × Obj)} {s : Shared} {σ : L2.St} {H : Hp} {Q : VK} {kx vx tg iter : Expr} {ifs : List Expr} {scope : Scope} {own : List (Str × Nat)} {pos pos' : Pos} {wi : TI} {g : TG} {tt : TT} {tk tv : TE} {use : Option (Value → Sem Unit)} {Qf : Value → Shared → Prop}
    (hc : X.calm = true) (hN : X.N.Nodup) (I : Inv X pins σ H s) (hi : PI X tg iter wi) (ok : BlkOk X.N X.env.scope scope own)
    (hg : ∀ (s : Shared) (H : Hp) (C : Addr) (cl : List (Str × Addr)) (fp : List Addr), PG (X.blk s H scope (compEnvC scope cl C X.env) fp) tg g) (ht : ∀ (s : Shared) (H : Hp) (C : Addr) (cl : List (Str × Addr)) (fp : List Addr), PTs (X.blk s H scope (compEnvC scope cl C X.env) fp) ifs tt)
    (hk : ∀ (s : Shared) (H : Hp) (C : Addr) (cl : List (Str × Addr)) (fp : List Addr), PE (X.blk s H scope (compEnvC scope cl C X.env) fp) kx tk)
    (he : ∀ (s : Shared) (H : Hp) (C : Addr) (cl : List (Str × Addr)) (fp : List Addr), PE (X.blk s H scope (compEnvC scope cl C X.env) fp) vx tv) (hs : ∀ x, foldedSetIterable iter X.env x = pure x)
    (h : tDcx u0 Pt wi g tt tk tv (own.map (·.2)) σ H Q)
    (hRR : ∀ D C s' m H', Inv X pins σ H' s' → Q (.ref D) H' → s'.heap.Ns C m → FpOk X pins H' C → compPost (model X.prog X.w) X.A X.xe use Qf (.ref D) C (.ok .next) s') :
    wpAny (model X.prog X.w) X.A (comprehension (.DictComp kx vx [⟨tg, iter, ifs, 0⟩] scope pos) scope X.env pos' newDict false (eval iter X.env) use) Qf X.xe s := by
  have hfree : ∀ y ∈ scope.names, y.2 = .free → ∃ c, X.env.cells.lookup y.1 = some c := fun y hy e => by
    rcases ok.free y hy e with k | k
    · exact I.ok.has _ (.inl k)
    · exact I.ok.has _ (.inr k)
  refine wpAny_comprehension_free (use := use) rfl hs (closure_ok hfree) ok.kind (fun y hy e => by rw [ok.uniq y hy, e])
    (thn (hi.run pins s σ H _ I h) fun xv s1 hx => thn hx fun itv s2 h2 => ?_)
  obtain ⟨it, fp, tn, J, H2, e, I2, T, st2, f2, q⟩ := h2
  subst e
  refine wpAny_newObj_type (newEnv_comp ?_)
  generalize hD : s2.heap.objs.size = D
  have hDn : H2 D = none := I2.hok.fresh (Nat.le_of_eq hD)
  obtain ⟨W, ⟨m0, w0⟩, turn⟩ := q D hDn
  -- the new list
  generalize hs3 : ({ s2 with heap := s2.heap.push { cls := .type "dict", data := .dict #[] } } : Shared) = s3
  have I3 : Inv X pins σ (upd H2 D (u0 D)) s3 := by
    rw [← hs3]
    refine I2.laid (t' := s2.toks) (fun b o e => Heap.get?_push_of_some _ e) (Nat.le_of_eq hD) ?_
    rw [← hD]
    exact h0 _ s2.heap I2.big
  have h3 : s3.heap = s2.heap.push { cls := .type "dict", data := .dict #[] } := by rw [← hs3]
  have sz : ∀ b ∈ fp, b < s2.heap.objs.size := fun b hb => by
    obtain ⟨o, e, _⟩ := T.obj _ _ st2 b hb
    exact Heap.lt_size e
  have f3 : ∀ b ∈ fp, FpOk X pins (upd H2 D (u0 D)) b ∧ b < s3.heap.objs.size := fun b hb => by
    have hlt := sz b hb
    refine ⟨⟨?_, (f2 b hb).2⟩, by rw [h3, Heap.size_push]; exact Nat.lt_succ_of_lt hlt⟩
    rw [upd_ne (by rw [← hD]; exact Nat.ne_of_lt hlt)]
    exact (f2 b hb).1
  have st3 : tn 0 s3.heap := T.keep _ _ _ st2 fun b _ o e => by rw [h3]; exact Heap.get?_push_of_some _ e
  have I4 := block_start I3 ok hN f3
  have pg := hg s3 (upd H2 D (u0 D)) s3.heap.objs.size (cellsFrom (s3.heap.objs.size + 1) scope.names (cloFrom X.env.cells scope.names [])) fp
  have pt := ht s3 (upd H2 D (u0 D)) s3.heap.objs.size (cellsFrom (s3.heap.objs.size + 1) scope.names (cloFrom X.env.cells scope.names [])) fp
  have pk := hk s3 (upd H2 D (u0 D)) s3.heap.objs.size (cellsFrom (s3.heap.objs.size + 1) scope.names (cloFrom X.env.cells scope.names [])) fp
  have pe := he s3 (upd H2 D (u0 D)) s3.heap.objs.size (cellsFrom (s3.heap.objs.size + 1) scope.names (cloFrom X.env.cells scope.names [])) fp
  show codeAny _ _ (.compStart (.DictComp kx vx [⟨tg, iter, ifs, 0⟩] scope pos) 0 (.ref it) (.ref D) (compEnvC scope (cellsFrom (s3.heap.objs.size + 1) scope.names (cloFrom X.env.cells scope.names [])) s3.heap.objs.size X.env)) (compPost (model X.prog X.w) X.A X.xe use Qf (.ref D) s3.heap.objs.size) { s3 with heap := pushCells (s3.heap.push { cls := .type "dict", data := .dict #[] }) scope.names }
  have nfp : ∀ b ∈ fp, (upd H2 D (u0 D)) b = none := fun b hb => (f3 b hb).1.1
  generalize hce : compEnvC scope (cellsFrom (s3.heap.objs.size + 1) scope.names (cloFrom X.env.cells scope.names [])) s3.heap.objs.size X.env = ce at I4 pg pt pk pe ⊢
  have cL : ce.locals = s3.heap.objs.size := by subst hce; rfl
  generalize hH3 : upd H2 D (u0 D) = H3 at I3 I4 pg pt pk pe w0 nfp f3
  generalize hs4 : ({ s3 with heap := pushCells (s3.heap.push { cls := .type "dict", data := .dict #[] }) scope.names } : Shared) = s4 at I4 ⊢
  have st4 : tn 0 s4.heap := T.keep _ _ _ st3 fun b _ o e => by rw [← hs4]; exact pushCells_keeps _ _ _ _ (Heap.get?_push_of_some _ e)
  have stat : ∀ {σ' : L2.St} {H' : Hp} {s' : Shared}, Inv (X.blk s3 H3 scope ce fp) [] σ' H' s' → (∀ b ∈ fp, H' b = none) → ∀ b ∈ fp, FpOk (X.blk s3 H3 scope ce fp) [] H' b := fun {σ' H' s'} I' hn b hb =>
    ⟨hn b hb, (I'.ok.exf b hb).1, I'.ok.exfs b hb, .inl hb, fun x c e => (I'.ok.exf b hb).2 x c e, fun p hp => absurd (show p ∈ ([] : List (Addr × Obj)) ++ [] from hp) (by simp)⟩
  have loop : codeAny (model X.prog X.w) X.A (.compLoop (.DictComp kx vx [⟨tg, iter, ifs, 0⟩] scope pos) 0 (.ref it) (.ref D) ce) (compPost (model X.prog X.w) X.A X.xe use Qf (.ref D) s3.heap.objs.size) s4 := by
    refine compLoop_anyD (fun n s' => ∃ i H', Inv (X.blk s3 H3 scope ce fp) [] (wipe σ (own.map (·.2))) H' s' ∧ tn i s'.heap ∧ (∀ b ∈ fp, H' b = none) ∧ W i n H') ?_ m0 ⟨0, H3, I4, st4, nfp, w0⟩
    rintro n s5 ⟨i, H5, I5, st5, n5, w5⟩
    rcases turn i n H5 w5 with ⟨stop, qq⟩ | ⟨go, Nx, hNx, step⟩
    · have td := T.done (X.blk s3 H3 scope ce fp) rfl rfl rfl hc i [] s5 _ H5 (fun _ _ => False) I5 (stat I5 n5) st5 stop
      refine thnF td fun r s6 ⟨hr, I6⟩ => ?_
      subst hr
      -- back in the def's context
      have I7 : Inv X pins σ H5 s6 := I3.call' (ch := fp) I6.os I6.base I6.hok I6.bare fun b hb => ⟨(f3 b hb).1.2.2.2.1, (f3 b hb).1.2.1, (f3 b hb).1.2.2.2.2.1, (f3 b hb).1.2.2.2.2.2⟩
      have nC : H5 s3.heap.objs.size = none := by
        have z : H5 ce.locals = none := I6.free
        rw [cL] at z
        exact z
      obtain ⟨m, hn, _⟩ := I6.loc
      have hn : s6.heap.Ns ce.locals m := hn
      rw [cL] at hn
      exact hRR D s3.heap.objs.size s6 m H5 I7 qq hn (I3.fpOk (Nat.le_refl _) nC)
    · have ti := T.item (X.blk s3 H3 scope ce fp) rfl rfl rfl hc i [] s5 _ H5 (fun _ _ => False) I5 (stat I5 n5) st5 go
      refine thnF ti fun r s6 ⟨u, hr, h6⟩ => ?_
      subst hr
      refine thnF h6 fun _ s7 ⟨x, H7, I7, r7, y7, st7, n7⟩ => ?_
      have I7' := I7.pinned (stat I7 n7) (T.obj _ _ st7)
      refine thnF (pg.run _ s7 _ H7 x u _ I7' r7 (step x H7 y7)) fun _ s8 ⟨σ8, H8, I8, hw8, q8⟩ => ?_
      refine thnF (pt.run _ s8 σ8 H8 _ I8 q8) fun b s9 ⟨H9, I9, q9⟩ => ?_
      -- the turn's end
      have fin : ∀ {s' : Shared} {H' : Hp}, Inv (X.blk s3 H3 scope ce fp) ([] ++ pinsAt fp s7.heap) σ8 H' s' → Nx H' → ∃ m, m < n ∧ ∃ i H', Inv (X.blk s3 H3 scope ce fp) [] (wipe σ (own.map (·.2))) H' s' ∧ tn i s'.heap ∧ (∀ b ∈ fp, H' b = none) ∧ W i m H' := fun {s' H'} I' nx => by
        obtain ⟨m', hm, w'⟩ := hNx H' nx
        have pin' : ∀ b ∈ fp, ∀ o, s7.heap.get? b = some o → s'.heap.get? b = some o ∧ H' b = none := fun b hb o e =>
          let z := I'.pin (b, o) (List.mem_append_right _ (List.mem_append_right _ (mem_pinsAt hb e)))
          ⟨z.1, z.2.1⟩
        have hl : (wipe σ (own.map (·.2))).length = σ8.length := by rw [← hw8, wipe_length]
        refine ⟨m', hm, i + 1, H', (I'.unpinned (pins := [])).weak hl (fun j v e => ?_), T.keep _ _ _ st7 fun b hb o e => (pin' b hb o e).1, fun b hb => ?_, w'⟩
        · rw [← hw8] at e
          exact (wipe_some e).1
        · obtain ⟨o, e, _⟩ := T.obj _ _ st7 b hb
          exact (pin' b hb o e).2
      cases b with
      | false =>
        simp only [Bool.false_eq_true, if_false] at q9 ⊢
        exact fin I9 q9
      | true =>
        simp only [if_true] at q9 ⊢
        refine thnF (pk.run _ s9 σ8 H9 _ I9 q9) fun z s10 ⟨yk, H10, I10, r10, q10⟩ => ?_
        refine thnF (pe.run _ s10 σ8 H10 _ I10 q10) fun z2 s11 ⟨yv, H11, I11, r11, H12, pt12, nx⟩ => ?_
        exact hput (X.blk s3 H3 scope ce fp) rfl rfl rfl rfl _ _ _ _ _ _ _ _ _ _ _ _ I11 pt12 r10 r11 fun s12 I12 => fin I12 nx
  exact codeAny_compStart_dict loop (T.self X.A 0 _ _ _ st4 loop)
theorem pe_dcx {u0 : Addr → HO} {Pt : Addr → V → V → Hp → Hp → Prop} (h0 : ∀ (H : Hp) (h : Heap), sysModules < h.objs.size → ObjOk X.prog X.w H (h.push { cls := .type "dict", data := .dict #[] }) h.objs.size (u0 h.objs.size)) (hput : PutR X Pt) {kx vx tg iter : Expr} {ifs : List Expr} {scope : Scope} {own : List (Str × Nat)} {pos : Pos} {wi : TI} {g : TG} {tt : TT} {tk tv : TE} (hc : X.calm = true) (hN : X.N.Nodup) (hi : PI X tg iter wi) (ok : BlkOk X.N X.env.scope scope own)
    (hg : ∀ (s : Shared) (H : Hp) (C : Addr) (cl : List (Str × Addr)) (fp : List Addr), PG (X.blk s H scope (compEnvC scope cl C X.env) fp) tg g) (ht : ∀ (s : Shared) (H : Hp) (C : Addr) (cl : List (Str × Addr)) (fp : List Addr), PTs (X.blk s H scope (compEnvC scope cl C X.env) fp) ifs tt)
    (hk : ∀ (s : Shared) (H : Hp) (C : Addr) (cl : List (Str × Addr)) (fp : List Addr), PE (X.blk s H scope (compEnvC scope cl C X.env) fp) kx tk)
    (he : ∀ (s : Shared) (H : Hp) (C : Addr) (cl : List (Str × Addr)) (fp : List Addr), PE (X.blk s H scope (compEnvC scope cl C X.env) fp) vx tv) (hs : ∀ x, foldedSetIterable iter X.env x = pure x := by intro _; rfl) :
    PE X (.DictComp kx vx [⟨tg, iter, ifs, 0⟩] scope pos) (tDcx u0 Pt wi g tt tk tv (own.map (·.2))) := by
  refine ⟨fun pins s σ H Q I h => ?_⟩
  rw [arm_eval_DictComp]
  refine dcx_core h0 hput hc hN I hi ok hg ht hk he hs h fun D C s' m H' I' q hn f => ⟨m, hn, fun h'' sb => ?_⟩
  obtain ⟨f0, f1, f2, f3, f4, f5⟩ := f
  exact ⟨.ref D, H', I'.turned (t' := s'.toks) (fun b o hb e => (sb.2 b hb).trans e) f0 f1 f3 f4 f5, rfl, q⟩
end
end DL

set_option Elab.async false
set_option linter.all false
set_option maxRecDepth 100000
set_option maxHeartbeats 4000000
/-! DLs2: dict comprehensions over data; dicts with tuples as keys: in, d[k]. -/
namespace DL
open PySem PySem.Spec PyProof.Rows L2
variable {K : PySem.W.Frag}
def keysD : List D → Option (List Key)
  | [] => some []
  | d :: ds => match keyD d, keysD ds with
    | some k, some ks => some (k :: ks)
    | _, _ => none
theorem keyD_rep {H : Hp} {d : D} {k : Key} {v : V} (h : keyD d = some k) (r : Rep K H d v) : v = kV k := by
  cases d <;> (try cases h)
  · cases r; rfl
  · cases r; rfl
theorem keysD_reps {H : Hp} : ∀ {ds : List D} {ks : List Key} {vs : List V}, keysD ds = some ks → Reps K H ds vs → vs = ks.map kV
  | [], _, _, h, r => by unfold keysD at h; cases h; unfold Reps at r; subst r; rfl
  | d :: ds, ks, vs, h, r => by
    unfold Reps at r
    obtain ⟨v, w, rfl, r1, r2⟩ := r
    unfold keysD at h
    cases e1 : keyD d with
    | none => rw [e1] at h; cases h
    | some k =>
      cases e2 : keysD ds with
      | none => rw [e1, e2] at h; cases h
      | some l =>
        rw [e1, e2] at h
        cases h
        rw [List.map_cons, keyD_rep e1 r1, keysD_reps e2 r2]

open Classical in
noncomputable def dput (kd vd : D) : MO → Option MO
  | .dK kvs => match keyD kd with
    | some k => if k ∈ kvs.map (·.1) then none else some (.dK (kvs ++ [(k, vd)]))
    | none => none
  | .dX P w kvs => match kd with
    | .tup ds => match keysD ds with
      | some ks => if ks ∈ kvs.map (·.1) then none else some (.dX P w (kvs ++ [(ks, vd)]))
      | none => none
    | _ => none
  | _ => none
def dlen : MO → Nat
  | .dK kvs => kvs.length
  | .dX _ _ kvs => kvs.length
  | _ => 0
def dcGo (T : DIt) (g : Tg) (wt : WT) (wk wv : WE) (ρ : Ro) (fin : MO → Mp → Prop) : List D → MO → Mp → Prop
  | [], acc, M => T.keep M ∧ fin acc M
  | x :: xs, acc, M => T.keep M ∧ ∃ ρ1, g.asn x ρ = some ρ1 ∧ wt ρ1 M fun b M1 => if b = true then wk ρ1 M1 fun kd M2 => wv ρ1 M2 fun vd M3 => ∃ acc', dput kd vd acc = some acc' ∧ dcGo T g wt wk wv ρ fin xs acc' M3 else dcGo T g wt wk wv ρ fin xs acc M1
def wDc (emp : MO) (wi : WI) (g : Tg) (wt : WT) (wk wv : WE) (vs : List Nat) : WE := fun ρ M Q => wi ρ M fun T M1 => T.items.length ≤ sizeLine ∧ dcGo T g wt wk wv (wipeD ρ vs) (fun acc M2 => ∀ p, M2 p = none → Q (.ref p) (up M2 p acc)) T.items emp M1
/-- the kinds of dicts -/
inductive DcK where | k | t (P : Program) (w : World)
def DcK.emp : DcK → MO | .k => .dK [] | .t P w => .dX P w []
def DcK.u0 : DcK → Addr → HO | .k => fun _ => .dK [] | .t P w => fun a => .ext (TD P w a [])
def DcK.ok (X : Cx) : DcK → Prop | .k => True | .t P w => P = X.prog ∧ w = X.w
def DcK.is : DcK → MO → Prop
  | .k, o => ∃ kvs, o = .dK kvs
  | .t P w, o => ∃ kvs, o = .dX P w kvs
def DcK.Pt (K : PySem.W.Frag) : DcK → Addr → V → V → Hp → Hp → Prop
  | .k => fun D y z H H' => ∃ kvs k, y = kV k ∧ H D = some (.dK kvs) ∧ kvs.length < sizeLine ∧ H' = upd H D (.dK (putK kvs k z))
  | .t P w => fun D y z H H' => ∃ xs k b, y = .ref b ∧ H D = some (.ext (TD P w D xs)) ∧ SqT K H b (k.map kV) ∧ (∀ q ∈ xs, SqT K H q.2.1 (q.1.map kV)) ∧ k ∉ xs.map (·.1) ∧ xs.length < sizeLine ∧ H' = upd H D (.ext (TD P w D (xs ++ [(k, b, z)])))
section
variable {X : Cx}
theorem td_ok {P : Program} {w : World} {H : Hp} {h : Heap} {a : Addr} {xs : List (List Key × Addr × V)} (t : TD P w a xs h) : ObjOk P w H h a (.ext (TD P w a xs)) := by
  refine ⟨t, ?_, fun h1 h2 t1 k => ?_⟩
  · obtain ⟨_, _, _, o, _, _, e, _⟩ := t; exact ⟨o, e⟩
  · obtain ⟨s, ys, f, o, es, ep, e, r⟩ := t1
    exact ⟨s, ys, f, o, es, ep, k o e, r⟩
theorem key_sq {pins : List (Addr × Obj)} {σ : L2.St} {H : Hp} {s : Shared} {b : Addr} {ks : List Key} (I : Inv X pins σ H s) (h : SqT X.K H b (ks.map kV)) : (tupleKind (mixKind X.prog X.w)).is s.heap ks b := by
  obtain ⟨its, r, ⟨o, e1, e2, n, e3⟩, _⟩ := I.tuple h
  exact ⟨o, its.toArray, n, e1, e2, e3, by simpa using items_are r⟩
theorem fit_keys : ∀ {xs : List (List Key × Addr × V)} {ys : List (List Key × Addr × Value)}, Paired (fun (p : List Key × Addr × V) (q : List Key × Addr × Value) => p.1 = q.1 ∧ p.2.1 = q.2.1 ∧ RelV p.2.2 q.2.2) xs ys → xs.map (·.1) = ys.map (·.1) ∧ xs.length = ys.length ∧ ∀ q ∈ ys, ∃ p ∈ xs, p.1 = q.1 ∧ p.2.1 = q.2.1
  | _, _, .nil => ⟨rfl, rfl, fun q hq => by cases hq⟩
  | _, _, .cons h r => by
    obtain ⟨a, b, c⟩ := fit_keys r
    refine ⟨by rw [List.map_cons, List.map_cons, a, h.1], by rw [List.length_cons, List.length_cons, b], fun q hq => ?_⟩
    rcases List.mem_cons.mp hq with rfl | hq
    · exact ⟨_, List.mem_cons_self, h.1, h.2.1⟩
    · obtain ⟨p, hp, e⟩ := c q hq; exact ⟨p, List.mem_cons_of_mem _ hp, e⟩
/-- the dict as the library reads it -/
theorem td_dict {pins : List (Addr × Obj)} {σ : L2.St} {H : Hp} {s : Shared} {a : Addr} {xs : List (List Key × Addr × V)} (I : Inv X pins σ H s) (e : H a = some (.ext (TD X.prog X.w a xs))) (hs : ∀ q ∈ xs, SqT X.K H q.2.1 (q.1.map kV)) :
    (a == sysModules) = false ∧ ∃ ys, Paired (fun (p : List Key × Addr × V) (q : List Key × Addr × Value) => p.1 = q.1 ∧ p.2.1 = q.2.1 ∧ RelV p.2.2 q.2.2) xs ys ∧ s.heap.DictOfH (tupleKind (mixKind X.prog X.w)) a ys := by
  obtain ⟨⟨hsm, ys, f, o, es, ep, h1, h2, h3, h4, h5⟩, _, _⟩ := (show ObjOk X.prog X.w H s.heap a (.ext (TD X.prog X.w a xs)) from I.hok a _ e)
  refine ⟨hsm, ys, f, o, es, ep, h1, h2, h3, h4, fun q hq => ?_, h5⟩
  obtain ⟨p, hp, e1, e2⟩ := (fit_keys f).2.2 q hq
  have := key_sq I (hs p hp)
  rw [← e1, ← e2]
  exact this
theorem atKey_new {xs : List (List Key × Addr × Value)} {k : List Key} (h : k ∉ xs.map (·.1)) : atKey xs k = none := by
  unfold atKey
  rw [Option.map_eq_none_iff, List.find?_eq_none]
  intro x hx
  simp only [decide_eq_true_eq]
  intro e
  exact h (e ▸ List.mem_map_of_mem hx)
theorem putR (kd : DcK) (ok : kd.ok X) (hu : Ru X) : PutR X (kd.Pt X.K) := by
  intro Y e1 e2 e3 e4 pins σ H H' s D y z u r E Q I pt ry rz h
  cases kd with
  | k =>
    obtain ⟨kvs, k, rfl, hD, hz, rfl⟩ := pt
    exact d_dictSet I hD hz ry rz h
  | t P w =>
    obtain ⟨xs, k, b, rfl, hD, hb, hs, hk, hz, rfl⟩ := pt
    obtain ⟨rfl, rfl⟩ := ok
    rw [← e1, ← e2] at hD h
    rw [← e3] at hb hs
    cases (show u = Value.ref b from ry)
    obtain ⟨hsm, ys, f, dd⟩ := td_dict I hD hs
    obtain ⟨f1, f2, _⟩ := fit_keys f
    refine wpAny_dictSet_heap (hsz := by rw [← f2]; exact Nat.le_of_lt hz) (show Y.A.units < cLine by rw [e4]; have := hu; omega) (key_sq I hb) dd fun h' dd' hs' => h _ ?_
    rw [storedH_new (atKey_new (by rw [← f1]; exact hk))] at dd'
    obtain ⟨q, es, ep, hq, h2, h3, h4, _, h5⟩ := dd'
    exact d_write I (by rw [hD]; exact True.intro) hs' ⟨q, hq⟩ (td_ok ⟨hsm, _, f.snoc ⟨rfl, rfl, rz⟩, q, es, ep, hq, h2, h3, h4, h5⟩)
theorem emp_ok (kd : DcK) (ok : kd.ok X) (H : Hp) (h : Heap) (hb : sysModules < h.objs.size) : ObjOk X.prog X.w H (h.push { cls := .type "dict", data := .dict #[] }) h.objs.size (kd.u0 h.objs.size) := by
  cases kd with
  | k => exact dk_empty h hb
  | t P w =>
    obtain ⟨rfl, rfl⟩ := ok
    exact td_ok ⟨by rw [beq_eq_false_iff_ne]; exact Nat.ne_of_gt hb, [], .nil, _, #[], 0, Heap.get?_push_size _ rfl, ⟨rfl, rfl, rfl⟩, rfl, rfl, List.nodup_nil⟩
theorem emp_rep (kd : DcK) {H : Hp} {D : Addr} (hD : H D = none) : RepO K (upd H D (kd.u0 D)) D kd.emp := by
  cases kd with
  | k => exact ⟨[], upd_same, by unfold Pairs; rfl⟩
  | t P w => exact ⟨[], upd_same, by unfold TPs; rfl⟩
end
theorem Pairs.more {H : Hp} {κ : Type} {k : κ} {d : D} {v : V} (hv : Rep K H d v) : ∀ {ds : List (κ × D)} {xs : List (κ × V)}, Pairs K H ds xs → Pairs K H (ds ++ [(k, d)]) (xs ++ [(k, v)])
  | [], _, h => by unfold Pairs at h; subst h; exact ⟨v, [], rfl, hv, rfl⟩
  | (j, c) :: ds, _, h => by
    unfold Pairs at h
    obtain ⟨v', r, rfl, h1, h2⟩ := h
    exact ⟨v', _, rfl, h1, Pairs.more hv h2⟩
theorem valV_new {kvs : List (Key × V)} {k : Key} (h : k ∉ kvs.map (·.1)) : valV kvs k = none := by
  unfold valV
  rw [Option.map_eq_none_iff, List.find?_eq_none]
  intro x hx
  simp only [decide_eq_true_eq]
  intro e
  exact h (e ▸ List.mem_map_of_mem hx)
theorem put_rep (kd : DcK) {H : Hp} {A0 : Addr} {acc acc' : MO} {dk dv : D} {y z : V} (hi : kd.is acc) (r : RepO K H A0 acc) (h : dput dk dv acc = some acc') (rk : Rep K H dk y) (rv : Rep K H dv z) (hz : dlen acc < sizeLine) :
    ∃ u, kd.Pt K A0 y z H (upd H A0 u) ∧ RepO K (upd H A0 u) A0 acc' ∧ kd.is acc' ∧ dlen acc' = dlen acc + 1 := by
  have nt := r.notup
  have ts : ∀ u, TupS K H (upd H A0 u) := fun u => .at_ nt
  cases kd with
  | k =>
    obtain ⟨kvs, rfl⟩ := hi
    obtain ⟨vs, e, ps⟩ := r
    unfold dput at h
    dsimp only at h
    cases ek : keyD dk with
    | none => rw [ek] at h; cases h
    | some k =>
      rw [ek] at h
      dsimp only at h
      split at h
      · cases h
      · rename_i hn
        cases h
        have hn' : k ∉ vs.map (·.1) := by rw [← ps.keys]; intro hm; exact hn hm
        refine ⟨.dK (putK vs k z), ⟨vs, k, keyD_rep ek rk, e, by rw [← ps.length]; exact hz, rfl⟩, ⟨_, upd_same, ?_⟩, ⟨_, rfl⟩, by simp [dlen]⟩
        rw [putK_new z (valV_new hn')]
        exact (Pairs.more rv ps).stay (ts _)
  | t P w =>
    obtain ⟨kvs, rfl⟩ := hi
    obtain ⟨xs, e, ps⟩ := r
    unfold dput at h
    dsimp only at h
    cases dk <;> (try (cases h; done))
    rename_i ds
    dsimp only at h
    cases ek : keysD ds with
    | none => rw [ek] at h; cases h
    | some ks =>
      rw [ek] at h
      dsimp only at h
      split at h
      · cases h
      · rename_i hn
        cases h
        unfold Rep at rk
        obtain ⟨b, vs, rfl, sq, rs⟩ := rk
        have evs := keysD_reps ek rs
        subst evs
        have hn' : ks ∉ xs.map (·.1) := by rw [← ps.keys]; intro hm; exact hn hm
        have el : kvs.length = xs.length := by have := congrArg List.length ps.keys; simpa using this
        refine ⟨.ext (TD P w A0 (xs ++ [(ks, b, z)])), ⟨xs, ks, b, rfl, e, sq, ps.sq, hn', by rw [← el]; exact hz, rfl⟩, ⟨_, upd_same, ?_⟩, ⟨_, rfl⟩, by simp [dlen]⟩
        exact (TPs.more sq rv ps).stay (ts _)
theorem RepM.offO {H : Hp} {M : Mp} {o : MO} (r : RepM K H M) {p : Addr} {u : HO} (h : M p = Option.none) (hp : RepO K H p o) : RepM K (upd H p u) M := fun a q e => by
  have ha : a ≠ p := fun z => by subst z; rw [h] at e; cases e
  exact (r a q e).stay (.at_ hp.notup) (upd_ne ha)
theorem dc_of (kd : DcK) {wi : WI} {g : Tg} {wt : WT} {wk wv : WE} {vs : List Nat} (hg : ∀ j ∈ g.slots, j ∈ vs) {σ : L2.St} {H : Hp} {Q : VK} (h : tD K (wDc kd.emp wi g wt wk wv vs) σ H Q) : tDcx kd.u0 (kd.Pt K) (iD K wi) (gD K g) (tDT K wt) (tD K wk) (tD K wv) vs σ H Q := by
  obtain ⟨ρ, M, F, Q0, s, q, gg⟩ := h
  refine ⟨ρ, M, F, _, s, q, fun T M1 J H1 q1 t1 f1 r1 it => ?_⟩
  obtain ⟨hlen, q1⟩ := q1
  intro D hD
  have fr1 := s.fr.next f1
  have nF : ∀ a, F a → a ≠ D := fun a ha z => by obtain ⟨⟨o, e⟩, _⟩ := fr1 a ha; rw [z, hD] at e; cases e
  generalize hfin : (fun acc M2 => ∀ p, M2 p = none → Q0 (.ref p) (up M2 p acc)) = fin at q1
  refine ⟨fun i m H' => m = T.items.length - i ∧ i ≤ T.items.length ∧ ∃ acc M', kd.is acc ∧ RepO K H' D acc ∧ dlen acc ≤ i ∧ RepM K H' M' ∧ FrOk (fun a => F a ∨ a = D) H' M' ∧ TupS K H H' ∧ Frm F H H' M' ∧ TupS K H1 H' ∧ dcGo T g wt wk wv (wipeD ρ vs) fin (T.items.drop i) acc M', ⟨T.items.length, rfl, Nat.zero_le _, kd.emp, M1, ?_, emp_rep kd hD, ?_, r1.more hD, fun a ha => ?_, t1.trans (.new hD), f1.trans (fr1.more hD), .new hD, q1⟩, ?_⟩
  · cases kd <;> exact ⟨_, rfl⟩
  · cases kd <;> exact Nat.le_refl _
  · rcases ha with ha | rfl
    · exact ⟨by rw [upd_ne (nF a ha)]; exact (fr1 a ha).1, (fr1 a ha).2⟩
    · exact ⟨⟨_, upd_same⟩, r1.none hD⟩
  · rintro i m H2 ⟨rfl, hi, acc, M2, ia, eD, la, r2, fr2, t2, f2, tt2, q2⟩
    by_cases hlt : i < T.items.length
    · rw [List.drop_eq_getElem_cons hlt] at q2
      unfold dcGo at q2
      obtain ⟨hk, ρ1, ea, q2⟩ := q2
      obtain ⟨go, yl⟩ := (it H2 M2 tt2 r2 hk i).1 hlt
      refine .inr ⟨go, fun H' => ∃ acc M', kd.is acc ∧ RepO K H' D acc ∧ dlen acc ≤ i + 1 ∧ RepM K H' M' ∧ FrOk (fun a => F a ∨ a = D) H' M' ∧ TupS K H H' ∧ Frm F H H' M' ∧ TupS K H1 H' ∧ dcGo T g wt wk wv (wipeD ρ vs) fin (T.items.drop (i + 1)) acc M', fun H' ⟨acc, M', h1, h2, h3, h4, h5, h6, h7, h8, h9⟩ => ⟨T.items.length - (i + 1), by omega, rfl, hlt, acc, M', h1, h2, h3, h4, h5, h6, h7, h8, h9⟩, fun x H3 hy => ?_⟩
      obtain ⟨d, ed, t3, k3, r3, p3⟩ := yl x H3 hy
      rw [List.getElem?_eq_getElem hlt] at ed
      cases ed
      have f3 : Frm (fun a => F a ∨ a = D) H2 H3 M2 := .of_same fr2 k3
      have fr3 := fr2.next f3
      have s3 : Stt K H3 (L2.wipe σ vs) (wipeD ρ vs) M2 (fun a => F a ∨ a = D) := by
        refine ⟨?_, r3, fr3⟩
        have e := s.rs.wipe vs
        exact ⟨e.1, fun i d h => let ⟨v, e1, e2⟩ := e.2 i d h; ⟨v, e1, e2.stay (t2.trans t3)⟩⟩
      refine ⟨_, wipeD ρ vs, ρ1, M2, _, p3, s3, ea, fun σ2 o2 s2 => ⟨wipe_off (o2.mono hg), ρ1, M2, _, _, s2, q2, fun b M4 H4 q4 t4 f4 r4 => ?_⟩⟩
      have e4 : RepO K H4 D acc := eD.stay (t3.trans t4) (by rw [(f4 D (.inr rfl)).1, (f3 D (.inr rfl)).1])
      have F4 : Frm F H H4 M4 := f2.trans (Frm.trans (M1 := M2) (fun a ha => f3 a (.inl ha)) fun a ha => f4 a (.inl ha))
      cases b with
      | false =>
        rw [if_neg Bool.false_ne_true] at q4
        show if false = true then _ else _
        rw [if_neg Bool.false_ne_true]
        exact ⟨acc, M4, ia, e4, by omega, r4, fr3.next f4, (t2.trans t3).trans t4, F4, (tt2.trans t3).trans t4, q4⟩
      | true =>
        rw [if_pos rfl] at q4
        show if true = true then _ else _
        rw [if_pos rfl]
        refine ⟨ρ1, M4, _, _, s2.next t4 f4 r4, q4, fun kd' M5 y H5 q5 t5 f5 r5 p5 => ⟨ρ1, M5, _, _, (s2.next t4 f4 r4).next t5 f5 r5, q5, fun vd M6 z H6 q6 t6 f6 r6 p6 => ?_⟩⟩
        obtain ⟨acc', ep, q6⟩ := q6
        have e6 : RepO K H6 D acc := e4.stay (t5.trans t6) (by rw [(f6 D (.inr rfl)).1, (f5 D (.inr rfl)).1])
        have n6 : M6 D = none := (f6 D (.inr rfl)).2
        obtain ⟨u, pt, e7, ia', la'⟩ := put_rep kd ia e6 ep (p5.stay t6) p6 (by omega)
        have tl : TupS K H6 (upd H6 D u) := .at_ e6.notup
        have T6 := (t3.trans t4).trans (t5.trans t6)
        refine ⟨_, pt, acc', M6, ia', e7, by omega, r6.offO n6 e6, fun a ha => ?_, (t2.trans T6).trans tl, fun a ha => ?_, (tt2.trans T6).trans tl, q6⟩
        · rcases ha with ha | rfl
          · have := (((fr3.next f4).next f5).next f6) a (.inl ha)
            exact ⟨by rw [upd_ne (nF a ha)]; exact this.1, this.2⟩
          · exact ⟨⟨_, upd_same⟩, n6⟩
        · have e := ((F4.trans fun a ha => f5 a (.inl ha)).trans fun a ha => f6 a (.inl ha)) a ha
          exact ⟨by rw [upd_ne (nF a ha)]; exact e.1, e.2⟩
    · have e : i = T.items.length := by omega
      subst e
      rw [List.drop_length] at q2
      unfold dcGo at q2
      obtain ⟨hk, q2⟩ := q2
      refine .inl ⟨(it H2 M2 tt2 r2 hk _).2 rfl, ?_⟩
      subst hfin
      have n2 : M2 D = none := (fr2 D (.inr rfl)).2
      refine gg _ _ _ H2 (q2 D n2) t2 (fun a ha => ⟨(f2 a ha).1, by rw [up_ne (nF a ha)]; exact (f2 a ha).2⟩) (fun a o ea => ?_) rfl
      by_cases ha : a = D
      · subst ha; rw [up_same] at ea; cases ea; exact eD
      · rw [up_ne ha] at ea; exact r2 a o ea
section
variable {X : Cx} {pos : Pos}
theorem pd_dc (kd : DcK) (okd : kd.ok X) (hu : Ru X) {kx vx tg iter : Expr} {ifs : List Expr} {scope : Scope} {own : List (Str × Nat)} {wi : WI} {g : Tg} {wt : WT} {wk wv : WE} (hc : X.calm = true) (hN : X.N.Nodup) (hi : PI X tg iter (iD X.K wi)) (ok : BlkOk X.N X.env.scope scope own)
    (hg : ∀ (s : Shared) (H : Hp) (C : Addr) (cl : List (Str × Addr)) (fp : List Addr), PG (X.blk s H scope (compEnvC scope cl C X.env) fp) tg (gD X.K g)) (ht : ∀ (s : Shared) (H : Hp) (C : Addr) (cl : List (Str × Addr)) (fp : List Addr), PTs (X.blk s H scope (compEnvC scope cl C X.env) fp) ifs (tDT X.K wt))
    (hk : ∀ (s : Shared) (H : Hp) (C : Addr) (cl : List (Str × Addr)) (fp : List Addr), PE (X.blk s H scope (compEnvC scope cl C X.env) fp) kx (tD X.K wk))
    (he : ∀ (s : Shared) (H : Hp) (C : Addr) (cl : List (Str × Addr)) (fp : List Addr), PE (X.blk s H scope (compEnvC scope cl C X.env) fp) vx (tD X.K wv)) (hs : ∀ x, foldedSetIterable iter X.env x = pure x) (hgs : ∀ j ∈ g.slots, j ∈ own.map (·.2)) :
    PE X (.DictComp kx vx [⟨tg, iter, ifs, 0⟩] scope pos) (tD X.K (wDc kd.emp wi g wt wk wv (own.map (·.2)))) := (pe_dcx (emp_ok kd okd) (putR kd okd hu) hc hN hi ok hg ht hk he hs).imp fun _ _ _ h => dc_of kd hgs h
end
end DL

set_option Elab.async false
set_option linter.all false
set_option maxRecDepth 100000
set_option maxHeartbeats 4000000
/-! DLy: dicts as data: {}, in, d[k], d[k] = v, sorted(d); o.m(..). -/
namespace DL
open PySem PySem.Spec PyProof.Rows L2
variable {K : PySem.W.Frag}
def kD : Key → D
  | .inl i => .int i
  | .inr x => .str x
def keyT (ks : List Key) : D := .tup (ks.map kD)
theorem kD_rep {H : Hp} (k : Key) : Rep K H (kD k) (kV k) := by cases k <;> rfl
theorem Reps.keysR {H : Hp} : ∀ ks : List Key, Reps K H (ks.map kD) (ks.map kV)
  | [] => .nil
  | k :: ks => .cons (kD_rep k) (Reps.keysR ks)
theorem keyT_rep {H : Hp} {ks : List Key} {b : Addr} (h : SqT K H b (ks.map kV)) : Rep K H (keyT ks) (.ref b) := by
  unfold keyT Rep
  exact ⟨b, _, rfl, h, .keysR ks⟩
theorem keyD_kD (k : Key) : keyD (kD k) = some k := by cases k <;> rfl
theorem keysD_map : ∀ ks : List Key, keysD (ks.map kD) = some ks
  | [] => rfl
  | k :: ks => by
    show keysD (kD k :: ks.map kD) = _
    unfold keysD
    rw [keyD_kD, keysD_map ks]
theorem TPs.keyReps {H : Hp} : ∀ {kvs : List (List Key × D)} {xs : List (List Key × Addr × V)}, TPs K H kvs xs → Reps K H (kvs.map fun p => keyT p.1) (xs.map fun x => V.ref x.2.1)
  | [], _, h => by unfold TPs at h; subst h; exact .nil
  | (k, d) :: ds, _, h => by
    unfold TPs at h
    obtain ⟨b, v, r, rfl, h1, h2, h3⟩ := h
    exact .cons (keyT_rep h1) h3.keyReps
section
variable {X : Cx} {a b : Expr} {wa wb : WE} {pos : Pos}
/-! ### {} -/
def wDnew (kd : DcK) : WE := fun _ M Q => ∀ p, M p = none → Q (.ref p) (up M p kd.emp)
theorem pd_dnew (kd : DcK) (okd : kd.ok X) : PE X (.Dict [] [] pos) (tD X.K (wDnew kd)) := ⟨fun pins s σ H Q I h => by
  obtain ⟨ρ, M, F, Q0, st, q, g⟩ := h
  have hp : H s.heap.objs.size = none := I.hok.fresh (Nat.le_refl _)
  refine wpAny_Dict_empty ⟨.ref s.heap.objs.size, _, I.laid (a := s.heap.objs.size) (o := kd.u0 s.heap.objs.size) (t' := s.toks) (fun _ _ q => Heap.get?_push_of_some _ q) (Nat.le_refl _) (emp_ok kd okd _ s.heap I.big), rfl, ?_⟩
  exact g _ _ _ _ (q _ (st.rm.none hp)) (.new hp) (st.fr.new hp _) (st.rm.new hp (emp_rep kd hp)) rfl⟩
/-! ### k in d -/
def hasK {κ β : Type} [DecidableEq κ] (kvs : List (κ × β)) (k : κ) : Bool := kvs.any fun p => decide (p.1 = k)
theorem hasK_iff {κ β : Type} [DecidableEq κ] {kvs : List (κ × β)} {k : κ} : hasK kvs k = true ↔ k ∈ kvs.map Prod.fst := by
  unfold hasK
  rw [List.any_eq_true, List.mem_map]
  constructor
  · rintro ⟨p, hp, e⟩; exact ⟨p, hp, of_decide_eq_true e⟩
  · rintro ⟨p, hp, e⟩; exact ⟨p, hp, decide_eq_true e⟩
theorem hasK_keys {κ β γ : Type} [DecidableEq κ] {xs : List (κ × β)} {ys : List (κ × γ)} (h : xs.map Prod.fst = ys.map Prod.fst) (k : κ) : hasK xs k = hasK ys k := by
  rw [Bool.eq_iff_iff, hasK_iff, hasK_iff, h]
theorem val_keys {κ : Type} [DecidableEq κ] : ∀ {kvs : List (κ × V)} {k : κ}, (valV kvs k).isSome = hasK kvs k
  | [], k => by simp [valV, hasK]
  | (j, v) :: kvs, k => by
    have ih := val_keys (kvs := kvs) (k := k)
    unfold valV hasK at ih ⊢
    rw [List.find?_cons, List.any_cons]
    by_cases h : j = k
    · subst h; simp
    · simp only [h, decide_false, Bool.false_or]
      exact ih
theorem at_keys {xs : List (List Key × Addr × V)} {ys : List (List Key × Addr × Value)} (f : Paired (fun (p : List Key × Addr × V) (q : List Key × Addr × Value) => p.1 = q.1 ∧ p.2.1 = q.2.1 ∧ RelV p.2.2 q.2.2) xs ys) (k : List Key) :
    (∀ v, (xs.find? fun x => decide (x.1 = k)).map (fun x => x.2.2) = some v → ∃ p, atKey ys k = some p ∧ RelV v p.2) ∧ (atKey ys k).isSome = hasK xs k := by
  induction f with
  | nil => exact ⟨fun v e => (by cases e), by simp [atKey, hasK]⟩
  | @cons x y xs ys h t ih =>
    unfold atKey hasK at ih ⊢
    rw [List.find?_cons, List.find?_cons, List.any_cons]
    by_cases e : x.1 = k
    · have e' : y.1 = k := h.1 ▸ e
      rw [e, e']
      simp only [decide_true]
      refine ⟨fun v q => ⟨y.2, rfl, ?_⟩, by simp⟩
      obtain rfl : x.2.2 = v := Option.some.inj q
      exact h.2.2
    · have e' : ¬ y.1 = k := h.1 ▸ e
      simp only [e, e', decide_false, Bool.false_or]
      exact ih
def inX (P : Program) (w : World) (neg : Bool) : D → D → Mp → DQ → Prop := fun x y M Q => ∃ p, y = .ref p ∧
  ((∃ kvs k, M p = some (.dK kvs) ∧ keyD x = some k ∧ Q (.bl (negB neg (hasK kvs k))) M) ∨ ∃ kvs ds k, M p = some (.dX P w kvs) ∧ x = .tup ds ∧ keysD ds = some k ∧ Q (.bl (negB neg (hasK kvs k))) M)
theorem od_inX (P : Program) (w : World) (eP : P = X.prog) (ew : w = X.w) (neg : Bool) (hu : Ru X) : OpR X (compareOp (if neg then .NotIn else .In)) (rD X.K (inX P w neg)) := fun pins s σ H x y v u Q I rx ry h => by
  subst eP ew
  have hu1 : X.A.units + 1 < cLine := by have := hu; omega
  obtain ⟨dx, dy, M, F, Q0, r1, r2, m, fr, ⟨p, rfl, h⟩, g⟩ := h
  cases r2
  cases (show u = Value.ref p from ry)
  rcases h with ⟨kvs, k, e, ek, hq⟩ | ⟨kvs, ds, k, e, rfl, ek, hq⟩
  · obtain ⟨vs, e1, ps⟩ := m _ _ e
    obtain rfl := keyD_rep ek r1
    have q := g _ M _ H hq (.refl _) fr.frm m rfl
    have ev : (valV vs k).isSome = hasK kvs k := by rw [val_keys]; exact hasK_keys ps.keys.symm k
    cases neg with
    | false => exact d_in hu1 I (.k e1) rx fun s' I' => ⟨.bl _, H, I', rfl, by rw [ev]; exact q⟩
    | true => exact d_notIn hu1 I (.k e1) rx fun s' I' => ⟨.bl _, H, I', rfl, by rw [ev]; exact q⟩
  · obtain ⟨xs, e1, ps⟩ := m _ _ e
    have q := g _ M _ H hq (.refl _) fr.frm m rfl
    unfold Rep at r1
    obtain ⟨b, vs, rfl, sq, rs⟩ := r1
    have evs := keysD_reps ek rs
    subst evs
    cases (show v = Value.ref b from rx)
    obtain ⟨hsm, ys, f, dd⟩ := td_dict I e1 ps.sq
    have ea : (atKey ys k).isSome = hasK kvs k := (at_keys f k).2.trans (hasK_keys ps.keys.symm k)
    cases neg with
    | false => exact wpAny_in_heap (tupleKind_room_in1 hu1) (key_sq I sq) hsm dd ⟨.bl _, H, I.tok _, rfl, by rw [ea]; exact q⟩
    | true => exact wpAny_notIn_heap (tupleKind_room_in1 hu1) (key_sq I sq) hsm dd ⟨.bl _, H, I.tok _, rfl, by rw [ea]; exact q⟩
/-! ### d[k] -/
theorem look_val {κ : Type} [DecidableEq κ] {H : Hp} : ∀ {ds : List (κ × D)} {vs : List (κ × V)} {k : κ} {d : D}, Pairs K H ds vs → (ds.find? fun p => decide (p.1 = k)).map (·.2) = some d → ∃ v, valV vs k = some v ∧ Rep K H d v
  | [], _, _, _, _, e => by cases e
  | (j, c) :: ds, _, k, d, h, e => by
    unfold Pairs at h
    obtain ⟨v, r, rfl, h1, h2⟩ := h
    rw [List.find?_cons] at e
    unfold valV
    rw [List.find?_cons]
    by_cases q : j = k
    · simp only [q, decide_true] at e ⊢
      cases e
      exact ⟨v, rfl, h1⟩
    · simp only [q, decide_false] at e ⊢
      exact look_val h2 e
theorem TPs.look {H : Hp} : ∀ {ds : List (List Key × D)} {xs : List (List Key × Addr × V)} {k : List Key} {d : D}, TPs K H ds xs → (ds.find? fun p => decide (p.1 = k)).map (·.2) = some d → ∃ v, (xs.find? fun x => decide (x.1 = k)).map (fun x => x.2.2) = some v ∧ Rep K H d v
  | [], _, _, _, _, e => by cases e
  | (j, c) :: ds, _, k, d, h, e => by
    unfold TPs at h
    obtain ⟨b, v, r, rfl, h0, h1, h2⟩ := h
    rw [List.find?_cons] at e ⊢
    by_cases q : j = k
    · simp only [q, decide_true] at e ⊢
      cases e
      exact ⟨v, rfl, h1⟩
    · simp only [q, decide_false] at e ⊢
      exact h2.look e
def atL {κ : Type} [DecidableEq κ] (kvs : List (κ × D)) (k : κ) : Option D := (kvs.find? fun p => decide (p.1 = k)).map (·.2)
def getX (P : Program) (w : World) : D → D → Mp → DQ → Prop := fun x y M Q => ∃ p, x = .ref p ∧
  ((∃ kvs k d, M p = some (.dK kvs) ∧ keyD y = some k ∧ atL kvs k = some d ∧ Q d M) ∨ ∃ kvs ds k d, M p = some (.dX P w kvs) ∧ y = .tup ds ∧ keysD ds = some k ∧ atL kvs k = some d ∧ Q d M)
theorem ix_getX (P : Program) (w : World) (eP : P = X.prog) (ew : w = X.w) (hu : Ru X) : IxR X (rD X.K (getX P w)) := fun value slice pins s σ H x y v u Q I rx ry h hs => by
  subst eP ew
  have hu1 : X.A.units + 1 < cLine := by have := hu; omega
  obtain ⟨dx, dy, M, F, Q0, r1, r2, m, fr, ⟨p, rfl, h⟩, g⟩ := h
  cases r1
  cases (show v = Value.ref p from rx)
  rcases h with ⟨kvs, k, d, e, ek, el, hq⟩ | ⟨kvs, ds, k, d, e, rfl, ek, el, hq⟩
  · obtain ⟨vs, e1, ps⟩ := m _ _ e
    obtain rfl := keyD_rep ek r2
    obtain ⟨v, ev, rv⟩ := look_val ps el
    obtain ⟨z, hd, us, rel, dd⟩ := dk_of I.hok e1
    exact tail_any dd.mapOf.typeIs slot_dict_getitem.lookup (d_getItem (A := X.A) hu1 I (by rw [← ev]; exact .k e1) ry fun w' s' I' rw' => ⟨v, H, I', rw', g d M v H hq (.refl _) fr.frm m rv⟩) hs
  · obtain ⟨xs, e1, ps⟩ := m _ _ e
    unfold Rep at r2
    obtain ⟨b, vs, rfl, sq, rs⟩ := r2
    have evs := keysD_reps ek rs
    subst evs
    cases (show u = Value.ref b from ry)
    obtain ⟨hsm, ys, f, dd⟩ := td_dict I e1 ps.sq
    obtain ⟨v, ev, rv⟩ := ps.look el
    obtain ⟨q, e2, rq⟩ := (at_keys f k).1 v ev
    exact tail_any dd.typeIs slot_dict_getitem.lookup (wpAny_getItem_heap (tupleKind_room_in1 hu1) (key_sq I sq) dd e2 ⟨v, H, I.tok _, rq, g d M v H hq (.refl _) fr.frm m rv⟩) hs
theorem pd_getX {P : Program} {w : World} (eP : P = X.prog) (ew : w = X.w) (hu : Ru X) (ha : PE X a (tD X.K wa)) (hb : PE X b (tD X.K wb)) (hs : PlainIx b) : PE X (.Subscript a b pos) (tD X.K (w2 (getX P w) wa wb)) :=
  (pe_ix (ix_getX P w eP ew hu) ha hb hs).imp fun _ _ _ h => two h
end
end DL

set_option Elab.async false
set_option linter.all false
set_option maxRecDepth 100000
set_option maxHeartbeats 4000000
/-! DLy2: d[k] = v; sorted(d), d a dict with tuples as keys. -/
namespace DL
open PySem PySem.Spec PyProof.Rows L2
variable {K : PySem.W.Frag}
def putL {κ : Type} [DecidableEq κ] (kvs : List (κ × D)) (k : κ) (d : D) : List (κ × D) := if hasK kvs k = true then kvs.map (fun p => if p.1 = k then (p.1, d) else p) else kvs ++ [(k, d)]
def putX (xs : List (List Key × Addr × V)) (k : List Key) (b : Addr) (v : V) : List (List Key × Addr × V) := if hasK xs k = true then xs.map (fun p => if p.1 = k then (p.1, p.2.1, v) else p) else xs ++ [(k, b, v)]
def dstore (z y : D) : MO → Option MO
  | .dK kvs => (keyD z).map fun k => .dK (putL kvs k y)
  | .dX P w kvs => match z with
    | .tup ds => (keysD ds).map fun k => .dX P w (putL kvs k y)
    | _ => none
  | _ => none
theorem Pairs.mapK {κ : Type} [DecidableEq κ] {H : Hp} {k : κ} {d : D} {v : V} (hv : Rep K H d v) : ∀ {ds : List (κ × D)} {vs : List (κ × V)}, Pairs K H ds vs → Pairs K H (ds.map fun p => if p.1 = k then (p.1, d) else p) (vs.map fun p => if p.1 = k then (p.1, v) else p)
  | [], _, h => by unfold Pairs at h; subst h; exact rfl
  | (j, c) :: ds, _, h => by
    unfold Pairs at h
    obtain ⟨u, r, rfl, h1, h2⟩ := h
    have ih := Pairs.mapK (k := k) hv h2
    rw [List.map_cons, List.map_cons]
    by_cases e : j = k
    · simp only [e, if_true]
      exact ⟨v, _, rfl, hv, ih⟩
    · simp only [e, if_false]
      exact ⟨u, _, rfl, h1, ih⟩
theorem TPs.mapK {H : Hp} {k : List Key} {d : D} {v : V} (hv : Rep K H d v) : ∀ {ds : List (List Key × D)} {xs : List (List Key × Addr × V)}, TPs K H ds xs → TPs K H (ds.map fun p => if p.1 = k then (p.1, d) else p) (xs.map fun p => if p.1 = k then (p.1, p.2.1, v) else p)
  | [], _, h => by unfold TPs at h; subst h; exact rfl
  | (j, c) :: ds, _, h => by
    unfold TPs at h
    obtain ⟨b, u, r, rfl, h0, h1, h2⟩ := h
    have ih := TPs.mapK (k := k) hv h2
    rw [List.map_cons, List.map_cons]
    by_cases e : j = k
    · subst e
      simp only [if_true]
      exact ⟨b, v, _, rfl, h0, hv, ih⟩
    · simp only [e, if_false]
      exact ⟨b, u, _, rfl, h0, h1, ih⟩
theorem putK_hasK {κ : Type} [DecidableEq κ] (vs : List (κ × V)) (k : κ) (v : V) : putK vs k v = if hasK vs k = true then vs.map (fun kv => if kv.1 = k then (kv.1, v) else kv) else vs ++ [(k, v)] := rfl
theorem Pairs.putD {κ : Type} [DecidableEq κ] {H : Hp} {k : κ} {d : D} {v : V} {ds : List (κ × D)} {vs : List (κ × V)} (h : Pairs K H ds vs) (hv : Rep K H d v) : Pairs K H (putL ds k d) (putK vs k v) := by
  rw [putK_hasK]
  unfold putL
  rw [hasK_keys h.keys k]
  split
  · exact h.mapK hv
  · exact Pairs.more hv h
theorem TPs.put {H : Hp} {k : List Key} {b : Addr} {d : D} {v : V} {ds : List (List Key × D)} {xs : List (List Key × Addr × V)} (h : TPs K H ds xs) (hb : SqT K H b (k.map kV)) (hv : Rep K H d v) : TPs K H (putL ds k d) (putX xs k b v) := by
  unfold putL putX
  rw [hasK_keys h.keys k]
  split
  · exact h.mapK hv
  · exact TPs.more hb hv h
theorem paired_put {xs : List (List Key × Addr × V)} {ys : List (List Key × Addr × Value)} {k : List Key} {b : Addr} {v : V} {u : Value} (rv : RelV v u) (f : Paired (fun (p : List Key × Addr × V) (q : List Key × Addr × Value) => p.1 = q.1 ∧ p.2.1 = q.2.1 ∧ RelV p.2.2 q.2.2) xs ys) :
    Paired (fun (p : List Key × Addr × V) (q : List Key × Addr × Value) => p.1 = q.1 ∧ p.2.1 = q.2.1 ∧ RelV p.2.2 q.2.2) (putX xs k b v) (storedH ys k b u) := by
  unfold putX storedH
  rw [(at_keys f k).2]
  split
  · induction f with
    | nil => exact .nil
    | @cons x y xs ys h t ih =>
      rw [List.map_cons, List.map_cons]
      refine .cons ?_ (by
        rename_i hh
        cases q : hasK xs k with
        | true => exact ih q
        | false =>
          have e : ∀ p ∈ xs, ¬ p.1 = k := fun p hp e => by
            have : hasK xs k = true := hasK_iff.mpr (e ▸ List.mem_map_of_mem hp)
            rw [q] at this; cases this
          clear ih hh
          induction t with
          | nil => exact .nil
          | @cons x2 y2 xs ys h2 t2 ih2 =>
            have n1 : ¬ x2.1 = k := e x2 List.mem_cons_self
            have n2 : ¬ y2.1 = k := h2.1 ▸ n1
            have q2 : hasK xs k = false := by
              cases q3 : hasK xs k with
              | false => rfl
              | true => unfold hasK at q q3; rw [List.any_cons, q3] at q; simp at q
            rw [List.map_cons, List.map_cons]
            refine .cons ?_ (ih2 q2 fun p hp => e p (List.mem_cons_of_mem _ hp))
            unfold putAt
            simp only [n1, n2, if_false]
            exact h2)
      unfold putAt
      by_cases e : x.1 = k
      · have e' : y.1 = k := h.1 ▸ e
        simp only [e, e', if_true]
        exact ⟨trivial, h.2.1, rv⟩
      · have e' : ¬ y.1 = k := h.1 ▸ e
        simp only [e, e', if_false]
        exact h
  · exact f.snoc ⟨rfl, rfl, rv⟩
section
variable {X : Cx} {a b i : Expr} {wa wb wi : WE} {pos : Pos}
def DcK.PtS (K : PySem.W.Frag) : DcK → Addr → V → V → Hp → Hp → Prop
  | .k => fun D y z H H' => ∃ kvs k, y = kV k ∧ H D = some (.dK kvs) ∧ kvs.length < sizeLine ∧ H' = upd H D (.dK (putK kvs k z))
  | .t P w => fun D y z H H' => ∃ xs k b, y = .ref b ∧ H D = some (.ext (TD P w D xs)) ∧ SqT K H b (k.map kV) ∧ (∀ q ∈ xs, SqT K H q.2.1 (q.1.map kV)) ∧ xs.length < sizeLine ∧ H' = upd H D (.ext (TD P w D (putX xs k b z)))
def rSetX (K : PySem.W.Frag) (kd : DcK) : TSet := fun o i v H Q => ∃ p H', o = .ref p ∧ kd.PtS K p i v H H' ∧ Q H'
theorem set_X (kd : DcK) (okd : kd.ok X) (hu : Ru X) : PSet X (rSetX X.K kd) := fun pins s σ H o i v ov iv u Q I ro ri rv h => by
  have hu1 : X.A.units + 1 < cLine := by have := hu; omega
  obtain ⟨p, H', rfl, pt, q⟩ := h
  cases (show ov = Value.ref p from ro)
  cases kd with
  | k =>
    obtain ⟨kvs, k, rfl, e, hz, rfl⟩ := pt
    exact d_setItem hu1 I (.inl ⟨kvs, k, e, rfl, hz, rfl⟩) ri rv fun s' I' => ⟨_, I', q⟩
  | t P w =>
    obtain ⟨rfl, rfl⟩ := okd
    obtain ⟨xs, k, b, rfl, e, sq, hs, hz, rfl⟩ := pt
    cases (show iv = Value.ref b from ri)
    obtain ⟨hsm, ys, f, dd⟩ := td_dict I e hs
    obtain ⟨f1, f2, _⟩ := fit_keys f
    refine wpAny_setItem_heap (tupleKind_room_in1 hu1) (key_sq I sq) dd (fun h' dd' hs' => ⟨_, ?_, q⟩) (by rw [← f2]; exact Nat.le_of_lt hz)
    obtain ⟨q', es, ep, hq, h2, h3, h4, _, h5⟩ := dd'
    exact d_write I (by rw [e]; exact True.intro) hs' ⟨q', hq⟩ (td_ok ⟨hsm, _, paired_put rv f, q', es, ep, hq, h2, h3, h4, h5⟩)
def wSetK (kd : DcK) (wo wi wv : WE) : WS := fun D0 ρ M => wv ρ M fun y M1 => wo ρ M1 fun x M2 => wi ρ M2 fun z M3 => ∃ p o o', x = .ref p ∧ M3 p = some o ∧ kd.is o ∧ dlen o < sizeLine ∧ dstore z y o = some o' ∧ D0.nx ρ (up M3 p o')
theorem psd_setK (kd : DcK) (okd : kd.ok X) (hu : Ru X) {pos' : Pos} (ho : PE X a (tD X.K wa)) (hi : PE X i (tD X.K wi)) (hv : PE X b (tD X.K wb)) (hs : swapsWithSole [.Subscript a i pos'] b pos.line X.env = pure false) (hw : swappedStores [.Subscript a i pos'] b X.env = pure none) (hns : notSlice i = true) :
    PS X (.Assign [.Subscript a i pos'] b pos) (tDS X.K (wSetK kd wa wi wb)) := (ps_asg hv (pg_sub ho hi (set_X kd okd hu) (by intro v; cases i <;> first | rfl | cases hns)) hs hw rfl).imp fun D σ H => by
  rintro ⟨ρ, M, F, D0, s, q, g⟩
  refine ⟨ρ, M, F, _, s, q, fun y M1 v H1 q1 t1 f1 r1 p1 => ⟨ρ, M1, F, _, s.next t1 f1 r1, q1, fun x M2 u H2 q2 t2 f2 r2 p2 => ⟨ρ, M2, F, _, (s.next t1 f1 r1).next t2 f2 r2, q2, fun z M3 w H3 q3 t3 f3 r3 p3 => ?_⟩⟩⟩
  obtain ⟨p, o, o', rfl, e, ko, hz, es, q3⟩ := q3
  cases p2
  have p1' := p1.stay (t2.trans t3)
  have eO := r3 _ _ e
  have fr3 := ((s.fr.next f1).next f2).next f3
  have key : ∃ u, kd.PtS X.K p w v H3 (upd H3 p u) ∧ RepO X.K (upd H3 p u) p o' := by
    have nt := eO.notup
    have ts : ∀ u, TupS X.K H3 (upd H3 p u) := fun u => .at_ nt
    cases kd with
    | k =>
      obtain ⟨kvs, rfl⟩ := ko
      obtain ⟨vs, e1, ps⟩ := eO
      cases ek : keyD z with
      | none => simp only [dstore, ek] at es; cases es
      | some k =>
        simp only [dstore, ek] at es
        cases es
        obtain rfl := keyD_rep ek p3
        exact ⟨_, ⟨vs, k, rfl, e1, by rw [← ps.length]; exact hz, rfl⟩, _, upd_same, (ps.putD p1').stay (ts _)⟩
    | t P w' =>
      obtain ⟨kvs, rfl⟩ := ko
      obtain ⟨xs, e1, ps⟩ := eO
      cases z <;> (try (simp only [dstore] at es; cases es; done))
      rename_i ds
      cases ek : keysD ds with
      | none => simp only [dstore, ek] at es; cases es
      | some k =>
        simp only [dstore, ek] at es
        cases es
        unfold Rep at p3
        obtain ⟨b, vs, rfl, sq, rs⟩ := p3
        have evs := keysD_reps ek rs
        subst evs
        have el : kvs.length = xs.length := by have := congrArg List.length ps.keys; simpa using this
        exact ⟨_, ⟨xs, k, b, rfl, e1, sq, ps.sq, by rw [← el]; exact hz, rfl⟩, _, upd_same, (ps.put sq p1').stay (ts _)⟩
  obtain ⟨u', pt, rO⟩ := key
  have tt : TupS X.K H3 (upd H3 p u') := .at_ eO.notup
  have ff := fr3.put (u := u') e o'
  refine ⟨p, _, rfl, pt, ?_⟩
  exact g.nx ρ _ σ _ q3 (((t1.trans t2).trans t3).trans tt) (((f1.trans f2).trans f3).trans ff) ((((s.next t1 f1 r1).next t2 f2 r2).next t3 f3 r3).next tt ff (r3.put e rO))
end
end DL

set_option Elab.async false
set_option linter.all false
set_option maxRecDepth 100000
set_option maxHeartbeats 4000000
/-! DLy3: sorted(d), d a dict with tuples as keys; o.m(..), m an own method. -/
namespace DL
open PySem PySem.Spec PyProof.Rows L2
variable {K : PySem.W.Frag}
mutual
theorem reads_in {h : Heap} : ∀ {v : Value} {d : PyData} {as : List Addr}, Reads h v d as → ∀ b ∈ as, ∃ o, h.get? b = some o
  | _, _, _, .none, _, hb => by cases hb
  | _, _, _, .bool _, _, hb => by cases hb
  | _, _, _, .int _ _, _, hb => by cases hb
  | _, _, _, .str _ _, _, hb => by cases hb
  | _, _, _, .list h1 h2 h3 h4, b, hb => by
    rcases List.mem_cons.mp hb with rfl | hb
    · exact ⟨_, h1⟩
    · exact readsAll_in h4 b hb
  | _, _, _, .tuple h1 h2 h3 h4, b, hb => readsAll_in h4 b hb
  | _, _, _, .dict h1 h2 h3 h4 h5, b, hb => by
    rw [List.cons_append] at hb
    rcases List.mem_cons.mp hb with rfl | hb
    · exact ⟨_, h1⟩
    · rcases List.mem_append.mp hb with hb | hb
      · exact readsAll_in h4 b hb
      · exact readsAll_in h5 b hb
theorem readsAll_in {h : Heap} : ∀ {vs : List Value} {ds : List PyData} {as : List Addr}, ReadsAll h vs ds as → ∀ b ∈ as, ∃ o, h.get? b = some o
  | _, _, _, .nil, _, hb => by cases hb
  | _, _, _, .cons h1 h2, b, hb => by
    rcases List.mem_append.mp hb with hb | hb
    · exact reads_in h1 b hb
    · exact readsAll_in h2 b hb
end
theorem plain_keys : ∀ ks : List Key, plains (ks.map kD) = true
  | [] => rfl
  | k :: ks => by
    show (plain (kD k) && plains (ks.map kD)) = true
    rw [plain_keys ks]
    cases k <;> rfl
theorem plains_keyT : ∀ kvs : List (List Key × D), plains (kvs.map fun p => keyT p.1) = true
  | [] => rfl
  | p :: kvs => by
    show (plain (keyT p.1) && plains (kvs.map fun p => keyT p.1)) = true
    rw [plains_keyT kvs]
    show (plains (p.1.map kD) && true) = true
    rw [plain_keys]; rfl
theorem vals_keys {xs : List (List Key × Addr × V)} {ys : List (List Key × Addr × Value)} (f : Paired (fun (p : List Key × Addr × V) (q : List Key × Addr × Value) => p.1 = q.1 ∧ p.2.1 = q.2.1 ∧ RelV p.2.2 q.2.2) xs ys) : Vals (xs.map fun x => V.ref x.2.1) (ys.map fun x => Value.ref x.2.1) := by
  induction f with
  | nil => exact .nil
  | cons h t ih => exact .cons (by show _ = _; rw [h.2.1]) ih
section
variable {X : Cx}
def sortXS : Spec := fun ds M Q => ∃ a P w kvs, ds = [.ref a] ∧ M a = some (.dX P w kvs) ∧ PySem.W.AllAlike ((kvs.map fun p => keyT p.1).map py) ∧ (∀ p ∈ kvs, p.1 ≠ []) ∧ (∀ p ∈ kvs, (py (keyT p.1)).depth ≤ 60) ∧ kvs.length ≤ sizeLine ∧
  ∀ p, M p = none → Q (.ref p) (up M p (.lst (sortD (kvs.map fun p => keyT p.1))))
theorem cd_sortX (hc : X.calm = true) (hu : Ru X) : CallR X (.builtin "sorted") (rDL X.K sortXS) := fun pins s σ H xs us Q I rv hh => by
  obtain ⟨ds, M, F, Q0, r1, m, fr, ⟨a, P, w, kvs, rfl, e, al, ne, dp, zl, q⟩, g⟩ := hh
  obtain ⟨v, rfl, rr⟩ := r1.one
  cases rr
  obtain ⟨u, rfl, ru⟩ := vals1 rv
  obtain rfl : u = Value.ref a := ru
  obtain ⟨xs, e1, ps⟩ := m _ _ e
  obtain ⟨⟨hsm, ys, f, o, es, ep, h1, h2, h3, h4, h5⟩, _, _⟩ := (show ObjOk X.prog X.w H s.heap a (.ext (TD P w a xs)) from I.hok a _ e1)
  obtain ⟨_, fl, _⟩ := fit_keys f
  have el : kvs.length = xs.length := by have := congrArg List.length ps.keys; simpa using this
  have l1 : es.size = ys.length := size_of_entries h4
  refine Calls.call_function_entry PyProof.Rows.kind_sorted PyProof.Rows.plain_sorted PyProof.Rows.entry_sorted (PyProof.Rows.args_sorted1 _) ?_
  unfold Builtin.«sorted»
  refine wpAny_bind (m := checkCount "sorted" 1 1 _) (wpAny_pure ?_)
  refine wpAny_bind (PySem.W.kdu_collect (A := X.A.in1) (kdl_raw hsm h2 h3) (I.ok.hd hc) h1 (by omega) fun h' tk acc hk hacc => ?_)
  have hal : acc.toList.length = ys.length := by rw [Array.length_toList, hacc.1]; exact l1
  have ea : acc.toList = ys.map fun x => Value.ref x.2.1 := by
    apply List.ext_getElem?
    intro j
    rw [List.getElem?_map]
    cases hj : acc.toList[j]? with
    | none =>
      have z1 := List.getElem?_eq_none_iff.mp hj
      rw [List.getElem?_eq_none (by omega)]
      rfl
    | some v =>
      obtain ⟨en, hen, hv⟩ := hacc.2 j v (by rw [← Array.getElem?_toList]; exact hj)
      have qe := entry_at h4 j
      rw [hen] at qe
      cases hb : ys[j]? with
      | none => rw [hb] at qe; cases qe
      | some b =>
        rw [hb] at qe
        have e2 : en = entryOfKey (tupleKind (mixKind P w)) b := Option.some.inj qe
        rw [hv, e2]
        rfl
  have rvs : Vals (xs.map fun x => V.ref x.2.1) acc.toList := by rw [ea]; exact vals_keys f
  have I1 : Inv X pins σ H { s with heap := h', toks := tk } := I.kept hk
  obtain ⟨w1, w2⟩ := each_of I1 ps.keyReps rvs (plains_keyT kvs)
  have hz : acc.toList.length ≤ sizeLine := by omega
  refine wpAny_bind (wpAny_newList ?_ hz)
  have hoL : (h'.push (seqObj "list" acc.toList.toArray 0)).get? h'.objs.size = some (seqObj "list" acc.toList.toArray 0) := Heap.get?_push_size _ rfl
  show wpAny _ _ _ _ _ { s with heap := h'.push (seqObj "list" acc.toList.toArray 0), toks := tk }
  have er : PySem.W.EachIs (fun (v : Value) (d : D) => ∃ as, Reads (h'.push (seqObj "list" acc.toList.toArray 0)) v (py d) as ∧ h'.objs.size ∉ as) acc.toList (kvs.map fun p => keyT p.1) := w2.mono fun v d h => by
    obtain ⟨as, r⟩ := h
    refine ⟨as, PyProof.Rows.Reads.keeps (fun b o e => Heap.get?_push_of_some _ e) r, fun hm => ?_⟩
    obtain ⟨ob, eb⟩ := reads_in r _ hm
    exact absurd (Heap.lt_size eb) (Nat.lt_irrefl _)
  have hk0 : PySem.W.Sortable ((kvs.map fun p => keyT p.1).map py) := .inl fun d hd => by
    obtain ⟨x, hx, rfl⟩ := List.mem_map.mp hd
    obtain ⟨p, hp, rfl⟩ := List.mem_map.mp hx
    have := ne p hp
    cases hk : p.1 with
    | nil => exact absurd hk this
    | cons k ks => exact ⟨py (kD k), pys (ks.map kD), by simp only [keyT, List.map_cons, py, pys]⟩
  have hu0 : ∀ b, b ∈ (kvs.map fun p => keyT p.1) → X.A.in1.units + 1 + (py b).depth < cLine := fun b hb => by
    obtain ⟨p, hp, rfl⟩ := List.mem_map.mp hb
    have := hu
    have := dp p hp
    show X.A.units + 1 + 1 + _ < cLine
    omega
  refine wpAny_bind (wpAny_holding (PySem.W.list_sort_data (s := { s with heap := h'.push (seqObj "list" acc.toList.toArray 0), toks := tk }) (R := fun (u : Value) (d : D) => ∃ v, RelV v u ∧ Rep X.K H d v) (enc := py) (bs := kvs.map fun p => keyT p.1) hoL w1 er al hk0 (by rw [List.length_map]; exact zl) hu0 fun out hlen ho => ?_))
  · obtain ⟨vs', y1, y2⟩ := of_each ho
    have hn : H h'.objs.size = none := I1.hok.fresh (Nat.le_refl _)
    obtain ⟨c, hc'⟩ := PyProof.Rows.sortedHeap_at (vs := acc.toList) (out := out.toArray) hoL
    refine wpAny_pure ⟨_, rfl, .ref h'.objs.size, upd H h'.objs.size (.lst vs'), I1.laid (t' := tk) (fun b u e => ?_) (Nat.le_refl _) ⟨by rw [y1.length, hlen, List.length_map]; exact zl, out, c, y1, hc'⟩, rfl, g _ _ _ _ (q _ (m.none hn)) (.new hn) (fr.new hn _) (m.new hn ⟨vs', upd_same, y2.stay (.new hn)⟩) rfl⟩
    have hb : b < h'.objs.size := Heap.lt_size e
    rw [PyProof.Rows.sortedHeap_old (Nat.ne_of_lt hb) (by rw [size_push']; exact Nat.lt_succ_of_lt hb)]
    exact Heap.get?_push_of_some _ e
/-! ### o.m(..) -/
structure MethM (k : Co) (C : Addr) (m : Str) (S : Spec) : Prop where
  cl : Cls k.K C
  ex : ∃ (n : Nat) (f : Addr) (fd : FuncData) (ps : List Str), FnOk k.prog k.w k.K k.mg k.base CX0 n f fd ps (spD k.K S) ∧ Room n k.A ∧ Binds k.K fd ps [] ∧ Meth k.K C m f
def wMeth (C : Addr) (m : Str) (S : Spec) (wo : WE) (u : WA) : WE := fun ρ M Q => wo ρ M fun x M1 => ∃ a fs, x = .ref a ∧ M1 a = some (.ins C fs) ∧ fs.lookup m = none ∧ u ρ M1 fun ds M2 => S (x :: ds) M2 Q
theorem meth_of {C : Addr} {m : Str} {S : Spec} {wo : WE} {u : WA} {σ : L2.St} {H : Hp} {Q : VK} (h : tD K (wMeth C m S wo u) σ H Q) : tMeth C m (spD K S) [] E0 (tD K wo) (tDA K u) σ H Q := by
  obtain ⟨ρ, M, F, Q0, s, q, g⟩ := h
  refine ⟨ρ, M, F, _, s, q, fun x M1 v H1 q1 t1 f1 r1 p1 => ?_⟩
  obtain ⟨a, fs, rfl, ea, hl, q1⟩ := q1
  obtain ⟨dx, vs, e1, ps⟩ := r1 _ _ ea
  refine ⟨a, dx, vs, p1, e1, ps.lookup_none hl, ρ, M1, F, _, s.next t1 f1 r1, q1, fun ds M2 us H2 q2 t2 f2 r2 p2 => ?_⟩
  show spD K S (v :: (us ++ [])) H2 Q E0
  rw [List.append_nil]
  exact ⟨_, M2, F, Q0, .cons (p1.stay t2) p2, r2, (s.fr.next f1).next f2, q2, (g.from t1 f1).from t2 f2⟩
theorem pd_meth {C : Addr} {m : Str} {S : Spec} {o e : Expr} {es : List Expr} {wo : WE} {u : WA} {apos pos : Pos} {pl : Sem Bool} (hM : MethM (co X) C m S) (ho : PE X o (tD X.K wo)) (ha : PA X (e :: es) (tDA X.K u)) (hs : (e :: es).all notStar = true)
    (ht : eval (.Call (.Attribute o m apos) (e :: es) [] pos) X.env = (do
      let ov ← eval o X.env
      standAt apos.atName
      let (f, first) ← holding [ov] (getMethod ov m pl)
      callWith pos f first (backTo pos (starEach (e :: es) X.env)) (backToKw pos (keywordEach [] X.env)))) :
    PE X (.Call (.Attribute o m apos) (e :: es) [] pos) (tD X.K (wMeth C m S wo u)) := by
  obtain ⟨n, f, fd, ps, F, hr, hb, hm⟩ := hM.ex
  have hs' := hs
  rw [List.all_cons, Bool.and_eq_true] at hs'
  exact (pe_meth ho hM.cl hm F hr hb .nil pass0 ha (star_of hs'.1 _ _) (back_any hs'.2) ht).imp fun _ _ _ h => meth_of h
theorem ev_meth {o : Expr} (hb : plainBase o = true) {m : Str} {apos pos : Pos} {es : List Expr} {env : Env} (hf : methodCallForm (es.length + ([] : List Keyword).length) (backTo pos (starEach es env)) (backToKw pos (keywordEach [] env)) = true) (hline : (apos.endLine == pos.line) = true) : eval (.Call (.Attribute o m apos) es [] pos) env = (do
      let ov ← eval o env
      standAt apos.atName
      let (f, first) ← holding [ov] (getMethod ov m (do return (← importBound o env).getD true))
      callWith pos f first (backTo pos (starEach es env)) (backToKw pos (keywordEach [] env))) := by
  rw [arm_eval_Call, base_plain hb]
  unfold methodCall methodCallPos calleeOf
  rw [hf, hline]
  rfl
theorem form_of {env : Env} {pos : Pos} {es : List Expr} (hs : es.all notStar = true) (hl : es.length < 30) : methodCallForm (es.length + ([] : List Keyword).length) (backTo pos (starEach es env)) (backToKw pos (keywordEach [] env)) = true := by
  have e1 : (backTo pos (starEach es env)).all (fun x => !x.1) = true := by
    have := back_any (env := env) (pos := pos) hs
    rw [List.all_eq_true]
    intro x hx
    rw [List.any_eq_false] at this
    have := this x hx
    simpa using this
  unfold methodCallForm
  rw [e1]
  have e2 : decide (es.length + ([] : List Keyword).length + (if (backToKw pos (keywordEach [] env)).isEmpty then 0 else 1) < 30) = true := by
    apply decide_eq_true
    show es.length + 0 + 0 < 30
    omega
  rw [e2]
  rfl
theorem pd_methA {C : Addr} {m : Str} {S : Spec} {o e : Expr} {es : List Expr} {wo : WE} {u : WA} {apos pos : Pos} (hM : MethM (co X) C m S) (ho : PE X o (tD X.K wo)) (ha : PA X (e :: es) (tDA X.K u)) (hb : plainBase o = true) (hs : (e :: es).all notStar = true) (hl : (e :: es).length < 30) (hline : (apos.endLine == pos.line) = true) :
    PE X (.Call (.Attribute o m apos) (e :: es) [] pos) (tD X.K (wMeth C m S wo u)) := pd_meth hM ho ha hs (ev_meth hb (form_of hs hl) hline)
theorem pd_meth0 {C : Addr} {m : Str} {S : Spec} {o : Expr} {wo : WE} {apos pos : Pos} (hM : MethM (co X) C m S) (ho : PE X o (tD X.K wo)) (hb : plainBase o = true) (hline : (apos.endLine == pos.line) = true) :
    PE X (.Call (.Attribute o m apos) [] [] pos) (tD X.K (wMeth C m S wo wNil)) := by
  obtain ⟨n, f, fd, ps, F, hr, hb', hm⟩ := hM.ex
  refine (pe_meth0 ho hM.cl hm F hr hb' .nil pass0 (ev_meth hb (form_of rfl (by decide)) hline)).imp fun σ H Q h => ?_
  obtain ⟨ρ, M, F, Q0, s, q, g⟩ := h
  refine ⟨ρ, M, F, _, s, q, fun x M1 v H1 q1 t1 f1 r1 p1 => ?_⟩
  obtain ⟨a, fs, rfl, ea, hl, q1⟩ := q1
  obtain ⟨dx, vs, e1, ps⟩ := r1 _ _ ea
  refine ⟨a, dx, vs, p1, e1, ps.lookup_none hl, ?_⟩
  exact ⟨_, M1, F, Q0, .cons p1 .nil, r1, s.fr.next f1, q1, g.from t1 f1⟩
end
end DL

set_option Elab.async false
set_option linter.all false
set_option maxRecDepth 100000
set_option maxHeartbeats 8000000
/-! DLi: a text as data: expressions; what they tell; that they do. -/
namespace DL
open PySem L2
/-! ### built-ins by their names -/
inductive Blt where | len | tuple | list | all | any | sum | max | min | abs | int | sorted | repr
def Blt.isRepr : Blt → Bool | .repr => true | _ => false
def Blt.nm : Blt → Str
  | .len => "len" | .tuple => "tuple" | .list => "list" | .all => "all" | .any => "any" | .sum => "sum" | .max => "max" | .min => "min" | .abs => "abs" | .int => "int" | .sorted => "sorted" | .repr => "repr"
def Blt.spec : Blt → Spec
  | .len => lenS | .tuple => tupleS | .list => listS | .all => allS | .any => anyS | .sum => sumS | .max => maxS | .min => minS | .abs => absS | .int => intS | .sorted => sortedS | .repr => reprS
section
variable {X : Cx} {a b c : Expr} {wa wb wc : WE} {pos p : Pos}
theorem callB_pe {id : String} {S : Spec} {x : Str} {e : Expr} {es : List Expr} {u : WA} (hr : CallR X (.builtin id) (rDL X.K S)) (hv : bootBuiltins x = some (.builtin id)) (hn : x ≠ "__name__") (hdb : (x == ("__debug__" : Str)) = false) (hg : Gl X x) (hm : X.mg x = none) (ha : PA X (e :: es) (tDA X.K u)) (hs : (e :: es).all notStar = true) :
    PE X (.Call (.Name x p) (e :: es) [] pos) (tD X.K (wCall S u)) := by
  have hs' := hs
  rw [List.all_cons, Bool.and_eq_true] at hs'
  exact (pe_callB hr hg hm hv ha hn hdb (star_of hs'.1 _ _) (back_any hs'.2)).imp fun _ _ _ h => callB_of h
theorem callT_pe {T : String} {S : Spec} {x : Str} {e : Expr} {es : List Expr} {u : WA} (hr : CallR X (.type T) (rDL X.K S)) (hv : bootBuiltins x = some (.type T)) (hn : x ≠ "__name__") (hdb : (x == ("__debug__" : Str)) = false) (hg : Gl X x) (hm : X.mg x = none) (ha : PA X (e :: es) (tDA X.K u)) (hs : (e :: es).all notStar = true) :
    PE X (.Call (.Name x p) (e :: es) [] pos) (tD X.K (wCall S u)) := by
  have hs' := hs
  rw [List.all_cons, Bool.and_eq_true] at hs'
  exact (pe_callTy hr hg hm hv ha hn hdb (star_of hs'.1 _ _) (back_any hs'.2)).imp fun _ _ _ h => callB_of h
theorem Blt.pe (bl : Blt) {e : Expr} {es : List Expr} {u : WA} (hu : Ru X) (hc : X.calm = true) (hgd : bl.isRepr = true → X.A.guards = some []) (hg : Gl X bl.nm) (hm : X.mg bl.nm = none) (ha : PA X (e :: es) (tDA X.K u)) (hs : (e :: es).all notStar = true) : PE X (.Call (.Name bl.nm p) (e :: es) [] pos) (tD X.K (wCall bl.spec u)) := by
  cases bl
  · exact callB_pe cd_len PySem.boot_len (by decide) (by decide) hg hm ha hs
  · exact callT_pe cd_tuple PyProof.Rows.boot_tuple (by decide) (by decide) hg hm ha hs
  · exact callT_pe (cd_list hc) PyProof.Rows.boot_list (by decide) (by decide) hg hm ha hs
  · exact callB_pe (cd_all hc) (by decide +kernel) (by decide) (by decide) hg hm ha hs
  · exact callB_pe (cd_any hc) (by decide +kernel) (by decide) (by decide) hg hm ha hs
  · exact callB_pe (cd_sum hc) PyProof.Rows.boot_sum (by decide) (by decide) hg hm ha hs
  · exact callB_pe (cd_max hc) PyProof.Rows.boot_max (by decide) (by decide) hg hm ha hs
  · exact callB_pe (cd_min hc) PyProof.Rows.boot_min (by decide) (by decide) hg hm ha hs
  · exact callB_pe cd_abs (by decide +kernel) (by decide) (by decide) hg hm ha hs
  · exact callT_pe cd_int PyProof.Rows.boot_int (by decide) (by decide) hg hm ha hs
  · exact callB_pe (cd_sorted hu) PyProof.Rows.boot_sorted (by decide) (by decide) hg hm ha hs
  · exact callB_pe (cd_repr (hgd rfl) hu) (by decide +kernel) (by decide) (by decide) hg hm ha hs
end
inductive Bm where | append | extend | join
def Bm.nm : Bm → Str | .append => "append" | .extend => "extend" | .join => "join"
def Bm.ty : Bm → String | .append => "list" | .extend => "list" | .join => "str"
def Bm.spec : Bm → MSpec | .append => appendM | .extend => extendM | .join => joinM
theorem Bm.pe (m : Bm) {X : Cx} {a e : Expr} {es : List Expr} {wa : WE} {u : WA} {pos apos : Pos} (ho : PE X a (tD X.K wa)) (ha : PA X (e :: es) (tDA X.K u)) (hb : plainBase a = true) (hs : (e :: es).all notStar = true) (hl : (e :: es).length < 30) (hline : (apos.endLine == pos.line) = true) :
    PE X (.Call (.Attribute a m.nm apos) (e :: es) [] pos) (tD X.K (wBm m.ty m.spec wa u)) := by
  cases m
  · exact pd_bm PySem.F.plainAttrs_list PySem.F.slot_list_append PySem.F.type_list_append md_append ho ha hb hs hl hline
  · exact pd_bm PySem.F.plainAttrs_list PySem.F.slot_list_extend PySem.F.type_list_extend md_extend ho ha hb hs hl hline
  · exact pd_bm PySem.F.plainAttrs_str PySem.F.slot_str_join PySem.F.type_str_join md_join ho ha hb hs hl hline
/-! ### the text as data -/
/-- a class as isinstance is asked of -/
inductive Cl where | bty (x : String) | own (x : Str) (C : Addr)
mutual
inductive E where
  | var (i : Nat) | int (i : Int) | str (x : Str) | bl (b : Bool) | non
  | glob (x : Str) (d : D)
  | tup (es : Es) | lst (es : Es)
  | bin (o : Operator) (a b : E)
  | neg (a : E)
  | cmp (o : CmpOp) (a b : E)
  | chain (o o' : CmpOp) (a b c : E)
  | bop (o : BoolOp) (es : Es)
  | not_ (a : E)
  | ife (t a b : E)
  | idx (a b : E)
  | slc (a : E) (lo hi : Oe)
  | fld (a : E) (C : Addr) (f : Str)
  | isa (a : E) (c : Cl) (f : D → Mp → Option Bool)
  | bcall (b : Blt) (es : Es)
  | bm (m : Bm) (a : E) (es : Es)
  | call (x : Str) (S : Spec) (es : Es)
  | callK (x : Str) (S : Spec) (es : Es) (ks : List Str) (kes : Es)
  | lc (own : List (Str × Nat)) (g : Tg) (w : Wk) (t : Oe) (elt : E)
  | dc (kd : DcK) (own : List (Str × Nat)) (g : Tg) (w : Wk) (t : Oe) (kx vx : E)
  | big
  | cmpO (neg : Bool) (C : Addr) (S : Spec) (a b : E)
  | lenO (C : Addr) (S : Spec) (a : E)
  | dnew (kd : DcK)
  | inX (P : Program) (w : World) (neg : Bool) (a b : E)
  | getX (P : Program) (w : World) (a b : E)
  | sortX (a : E)
  | meth (C : Addr) (m : Str) (S : Spec) (a : E) (es : Es)
inductive Es where
  | nil
  | cons (e : E) (es : Es)
inductive Oe where
  | none
  | some (e : E)
inductive Wk where
  | seq (e : E) | r1 (e : E) | r2 (a b : E) | zip (a b : E) | str (e : E) | enm (e : E)
end
def Es.len : Es → Nat
  | .nil => 0
  | .cons _ es => es.len + 1
def binF : Operator → D → D → Mp → DQ → Prop
  | .Add => addD
  | .Sub => intD (fun _ _ => True) fun i j => i - j
  | .Mult => mulD
  | .Mod => intD (fun _ j => 0 < j) fun i j => i % j
  | .FloorDiv => intD CDiv fun i j => i / j
  | .Pow => intD CPow fun i j => i ^ j.toNat
  | _ => fun _ _ _ _ => False
def cmpF : CmpOp → D → D → Mp → DQ → Prop
  | .Eq => eqD false | .NotEq => eqD true | .Lt => ordD .lt | .LtE => ordD .le | .Gt => ordD .gt | .GtE => ordD .ge
  | .Is => isD false | .IsNot => isD true | .In => inD false | .NotIn => inD true
theorem binF_ok {X : Cx} (o : Operator) : OpR X (binaryOp o) (rD X.K (binF o)) := by
  cases o
  case Add => exact od_add
  case Sub => exact od_int op_sub'
  case Mult => exact od_mul
  case Mod => exact od_int op_mod
  case FloorDiv => exact od_int op_fdiv
  case Pow => exact od_int op_pow
  all_goals (intro pins s σ H x y v u Q I rx ry h; obtain ⟨_, _, _, _, _, _, _, _, _, z, _⟩ := h; exact z.elim)
theorem cmpF_ok {X : Cx} (hu : Ru X) (o : CmpOp) : OpR X (compareOp o) (rD X.K (cmpF o)) := by
  cases o
  · exact od_eq hu
  · exact od_ne hu
  · exact od_ord .lt hu
  · exact od_ord .le hu
  · exact od_ord .gt hu
  · exact od_ord .ge hu
  · exact od_is false
  · exact od_is true
  · exact od_in false hu
  · exact od_in true hu
def isaD (f : D → Mp → Option Bool) : D → Mp → DQ → Prop := fun x M Q => ∃ b, f x M = some b ∧ Q (.bl b) M
def negD : D → Mp → DQ → Prop := fun x M Q => ∃ i, x = .int i ∧ Q (.int (-i)) M
mutual
def E.wp : E → WE
  | .var i => wVar i
  | .int i => wC (.int i)
  | .str x => wC (.str x)
  | .bl b => wC (.bl b)
  | .non => wC .non
  | .glob _ d => wC d
  | .tup es => wTup es.wp
  | .lst es => wLst es.wp
  | .bin o a b => w2 (binF o) a.wp b.wp
  | .neg a => w1 negD a.wp
  | .cmp o a b => w2 (cmpF o) a.wp b.wp
  | .chain o o' a b c => w3 (cmpF o) (cmpF o') a.wp b.wp c.wp
  | .bop o es => es.wpV o
  | .not_ a => wNotV a.wp
  | .ife t a b => wIf t.wpT a.wp b.wp
  | .idx a b => w2 ixD a.wp b.wp
  | .slc a lo hi => wSl a.wp lo.wpO hi.wpO
  | .fld a C f => w1 (fldD C f) a.wp
  | .isa a _ f => w1 (isaD f) a.wp
  | .bcall b es => wCall b.spec es.wp
  | .bm m a es => wBm m.ty m.spec a.wp es.wp
  | .call _ S es => wCall S es.wp
  | .callK _ S es _ kes => wCallK S es.wp kes.wp
  | .lc own g w t elt => wLc w.wp g t.wpT elt.wp (own.map (·.2))
  | .dc kd own g w t kx vx => wDc kd.emp w.wp g t.wpT kx.wp vx.wp (own.map (·.2))
  | .big => wC (.int potTop)
  | .cmpO neg C S a b => w2 (eqOD C S neg) a.wp b.wp
  | .lenO C S a => wCall (lenOS C S) (wCons a.wp wNil)
  | .dnew kd => wDnew kd
  | .inX P w neg a b => w2 (inX P w neg) a.wp b.wp
  | .getX P w a b => w2 (getX P w) a.wp b.wp
  | .sortX a => wCall sortXS (wCons a.wp wNil)
  | .meth C m S a es => wMeth C m S a.wp es.wp
def E.wpT : E → WT
  | .cmp o a b => wTest (w2 (cmpF o) a.wp b.wp)
  | .chain o o' a b c => wTest (w3 (cmpF o) (cmpF o') a.wp b.wp c.wp)
  | .bop o es => es.wpT o
  | .not_ a => wNot a.wpT
  | .var i => wTru (wVar i)
  | .idx a b => wTru (w2 ixD a.wp b.wp)
  | .fld a C f => wTru (w1 (fldD C f) a.wp)
  | .isa a _ f => wTru (w1 (isaD f) a.wp)
  | .bcall b es => wTru (wCall b.spec es.wp)
  | .call _ S es => wTru (wCall S es.wp)
  | .bl b => wTru (wC (.bl b))
  | .cmpO neg C S a b => wTest (w2 (eqOD C S neg) a.wp b.wp)
  | .inX P w neg a b => wTest (w2 (inX P w neg) a.wp b.wp)
  | .meth C m S a es => wTru (wMeth C m S a.wp es.wp)
  | _ => fun _ _ _ => False
def Es.wp : Es → WA
  | .nil => wNil
  | .cons e es => wCons e.wp es.wp
def Es.wpV (o : BoolOp) : Es → WE
  | .nil => fun _ _ _ => False
  | .cons e .nil => e.wp
  | .cons e es => match o with
    | .And => wAndV e.wp (es.wpV o)
    | .Or => wOrV e.wp (es.wpV o)
def Es.wpT (o : BoolOp) : Es → WT
  | .nil => fun _ _ _ => False
  | .cons e .nil => e.wpT
  | .cons e es => match o with
    | .And => wAnd e.wpT (es.wpT o)
    | .Or => wOr e.wpT (es.wpT o)
def Oe.wpO : Oe → WO
  | .none => wO0
  | .some e => wO1 e.wp
def Oe.wpT : Oe → WT
  | .none => wYes
  | .some e => e.wpT
def Wk.wp : Wk → WI
  | .seq e => wISeq e.wp
  | .r1 e => wIR1 e.wp
  | .r2 a b => wIR2 a.wp b.wp
  | .zip a b => wIZip a.wp b.wp
  | .str e => wIStr e.wp
  | .enm e => wIEn e.wp
end
/-! ### does a text look so -/
structure Sc where
  N : List Str
  sc : Scope
  fn : Str → Bool
def nmB (c : Sc) (i : Nat) (x : Str) : Bool := decide (c.N[i]? = some x) && ((match c.sc.names.lookup x with | some .local => true | some .cell => true | some .free => true | _ => false) && (!(x == ("__debug__" : Str)) && !(x == ("__classdict__" : Str))))
def glB (c : Sc) (x : Str) : Bool := decide (c.sc.names.lookup x = some .globalImplicit) && !(x == ("__debug__" : Str))
def tgB (c : Sc) (i : Nat) (x : Str) : Bool := decide (c.N[i]? = some x) && (match c.sc.names.lookup x with | some .local => true | some .cell => c.fn x | _ => false)
def Sc.blk (c : Sc) (scope : Scope) : Sc := ⟨c.N, relS scope c.sc, fun x => scope.names.lookup x == some .cell⟩
def asTuple : Expr → Bool | .Tuple _ _ _ => true | _ => false
def tyNames : List String := ["int", "bool", "str", "tuple", "list", "dict"]
mutual
def Tg.mt (c : Sc) : Tg → Expr → Bool
  | .name i, x => match x with
    | .Name y _ => tgB c i y
    | _ => false
  | .tup ts, x => match x with
    | .Tuple es _ _ => ts.mt c es
    | _ => false
def Tgs.mt (c : Sc) : Tgs → List Expr → Bool
  | .nil, xs => match xs with
    | [] => true
    | _ => false
  | .cons t ts, xs => match xs with
    | x :: xs => notStar x && (t.mt c x && ts.mt c xs)
    | [] => false
end
mutual
def E.mt (c : Sc) : E → Expr → Bool
  | .big, x => match x with
    | .Call (.Name n _) [.BinOp (.Constant (.str s1) _ _) .Add (.BinOp (.Constant (.str s2) _ _) .Mult (.Constant (.int i) _ _) _) _] [] _ => decide (n = "int") && (glB c n && (decide (s1 = "1") && (decide (s2 = "0") && decide (i = 900))))
    | _ => false
  | .cmpO neg _ _ a b, x => match x with
    | .Compare l [o'] [r] _ => decide ((if neg then CmpOp.NotEq else CmpOp.Eq) = o') && (a.mt c l && (b.mt c r && !behindInMarks (if neg then CmpOp.NotEq else CmpOp.Eq) r))
    | _ => false
  | .lenO _ _ a, x => match x with
    | .Call (.Name n _) [l] [] _ => decide (n = "len") && (glB c n && (a.mt c l && notStar l))
    | _ => false
  | .dnew _, x => match x with
    | .Dict [] [] _ => true
    | _ => false
  | .inX _ _ neg a b, x => match x with
    | .Compare l [o'] [r] _ => decide ((if neg then CmpOp.NotIn else CmpOp.In) = o') && (a.mt c l && (b.mt c r && !behindInMarks (if neg then CmpOp.NotIn else CmpOp.In) r))
    | _ => false
  | .getX _ _ a b, x => match x with
    | .Subscript l r _ => a.mt c l && (b.mt c r && notSlice r)
    | _ => false
  | .sortX a, x => match x with
    | .Call (.Name n _) [l] [] _ => decide (n = "sorted") && (glB c n && (a.mt c l && notStar l))
    | _ => false
  | .meth _ m _ a es, x => match x with
    | .Call (.Attribute l n ap) ys [] p => decide (n = m) && (a.mt c l && (es.mt c ys && (plainBase l && (decide (ys.length < 30) && (ap.endLine == p.line)))))
    | _ => false
  | .dc _ own g w t kx vx, x => match x with
    | .DictComp kl vl [⟨tg, iter, ifs, as⟩] scope _ => decide (as = 0) && (blkC c.N c.sc scope own && (notSet iter && (w.mt c tg iter && (g.mt (c.blk scope) tg && (t.mtI (c.blk scope) ifs && (kx.mt (c.blk scope) kl && (vx.mt (c.blk scope) vl && g.slots.all fun j => (own.map (·.2)).contains j)))))))
    | _ => false
  | .var i, x => match x with
    | .Name y _ => nmB c i y
    | _ => false
  | .int i, x => match x with
    | .Constant (.int j) _ _ => decide (i = j)
    | _ => false
  | .str z, x => match x with
    | .Constant (.str j) _ _ => decide (z = j)
    | _ => false
  | .bl z, x => match x with
    | .Constant (.bool j) _ _ => decide (z = j)
    | _ => false
  | .non, x => match x with
    | .Constant .none _ _ => true
    | _ => false
  | .glob n _, x => match x with
    | .Name y _ => decide (n = y) && glB c n
    | _ => false
  | .tup es, x => match x with
    | .Tuple xs _ _ => es.mt c xs
    | _ => false
  | .lst es, x => match x with
    | .List xs _ => es.mt c xs
    | _ => false
  | .bin o a b, x => match x with
    | .BinOp l o' r _ => decide (o = o') && (a.mt c l && b.mt c r)
    | _ => false
  | .neg a, x => match x with
    | .UnaryOp .USub l _ => a.mt c l
    | _ => false
  | .cmp o a b, x => match x with
    | .Compare l [o'] [r] _ => decide (o = o') && (a.mt c l && (b.mt c r && !behindInMarks o r))
    | _ => false
  | .chain o p a b d, x => match x with
    | .Compare l [o', p'] [m, r] _ => decide (o = o') && (decide (p = p') && (a.mt c l && (b.mt c m && (d.mt c r && !lastMarks [o, p] [m, r]))))
    | _ => false
  | .bop o es, x => match x with
    | .BoolOp o' xs _ => decide (o = o') && es.mt c xs
    | _ => false
  | .not_ a, x => match x with
    | .UnaryOp .Not l _ => a.mt c l
    | _ => false
  | .ife t a b, x => match x with
    | .IfExp y l r _ => t.mt c y && (a.mt c l && b.mt c r)
    | _ => false
  | .idx a b, x => match x with
    | .Subscript l r _ => a.mt c l && (b.mt c r && notSlice r)
    | _ => false
  | .slc a lo hi, x => match x with
    | .Subscript l (.Slice p q none _) _ => a.mt c l && (lo.mt c p && hi.mt c q)
    | _ => false
  | .fld a _ f, x => match x with
    | .Attribute l g _ => decide (f = g) && (a.mt c l && plainBase l)
    | _ => false
  | .isa a k _, x => match x with
    | .Call (.Name n _) [l, .Name y _] [] _ => decide (n = "isinstance") && (glB c n && (a.mt c l && (notStar l && (glB c y && (match k with
      | .bty t => decide (y = Str.ofString t) && tyNames.contains t
      | .own z _ => decide (y = z))))))
    | _ => false
  | .bcall b es, x => match x with
    | .Call (.Name n _) (l :: ls) [] _ => decide (n = b.nm) && (glB c n && es.mt c (l :: ls))
    | _ => false
  | .bm m a es, x => match x with
    | .Call (.Attribute l n ap) (y :: ys) [] p => decide (n = m.nm) && (a.mt c l && (es.mt c (y :: ys) && (plainBase l && (decide ((y :: ys).length < 30) && (ap.endLine == p.line)))))
    | _ => false
  | .call n _ es, x => match x with
    | .Call (.Name y _) xs [] _ => decide (n = y) && (glB c n && es.mt c xs)
    | _ => false
  | .callK n _ es ks kes, x => match x with
    | .Call (.Name y _) xs kws _ => decide (n = y) && (glB c n && (es.mt c xs && (kes.mtK c kws && decide (kwNames kws = ks.map some))))
    | _ => false
  | .lc own g w t elt, x => match x with
    | .ListComp el [⟨tg, iter, ifs, as⟩] scope _ => decide (as = 0) && (blkC c.N c.sc scope own && (notSet iter && (w.mt c tg iter && (g.mt (c.blk scope) tg && (t.mtI (c.blk scope) ifs && (elt.mt (c.blk scope) el && g.slots.all fun j => (own.map (·.2)).contains j))))))
    | _ => false
def Es.mt (c : Sc) : Es → List Expr → Bool
  | .nil, xs => match xs with
    | [] => true
    | _ => false
  | .cons e es, xs => match xs with
    | x :: xs => notStar x && (e.mt c x && es.mt c xs)
    | [] => false
def Es.mtK (c : Sc) : Es → List Keyword → Bool
  | .nil, xs => match xs with
    | [] => true
    | _ => false
  | .cons e es, xs => match xs with
    | ⟨_, x, _⟩ :: xs => e.mt c x && es.mtK c xs
    | [] => false
def Oe.mt (c : Sc) : Oe → Option Expr → Bool
  | .none, x => match x with
    | none => true
    | _ => false
  | .some e, x => match x with
    | some y => e.mt c y
    | _ => false
def Oe.mtI (c : Sc) : Oe → List Expr → Bool
  | .none, x => match x with
    | [] => true
    | _ => false
  | .some e, x => match x with
    | [y] => e.mt c y
    | _ => false
def Wk.mt (c : Sc) : Wk → Expr → Expr → Bool
  | .enm e, tg, x => match x with
    | .Call (.Name n _) [y] [] _ => asTuple tg && (decide (n = "enumerate") && (glB c n && (notStar y && e.mt c y)))
    | _ => false
  | .seq e, _, x => e.mt c x
  | .str e, _, x => e.mt c x
  | .r1 e, _, x => match x with
    | .Call (.Name n _) [y] [] _ => decide (n = "range") && (glB c n && (notStar y && e.mt c y))
    | _ => false
  | .r2 a b, _, x => match x with
    | .Call (.Name n _) [y, z] [] _ => decide (n = "range") && (glB c n && (notStar y && (a.mt c y && (notStar z && b.mt c z))))
    | _ => false
  | .zip a b, tg, x => match x with
    | .Call (.Name n _) [y, z] [] _ => asTuple tg && (decide (n = "zip") && (glB c n && (notStar y && (a.mt c y && (notStar z && b.mt c z)))))
    | _ => false
end
/-! ### what the text leans on -/
/-- a look at a thing's class -/
structure Isa (k : Co) (c : Cl) (f : D → Mp → Option Bool) : Prop where
  mi : k.mg "isinstance" = none
  cl : match c with | .bty x => k.mg (Str.ofString x) = none | .own x C => k.mg x = some (.ref C)
  ok : ∀ H M d v b, RepM k.K H M → Rep k.K H d v → f d M = some b → ∃ t, TyX k.K H v t ∧ PySem.W.kitOne k.K t (match c with | .bty x => .type x | .own _ C => .ref C) = some b
mutual
def E.ok (k : Co) : E → Prop
  | .glob x d => ∃ u v, k.mg x = some u ∧ RelV v u ∧ ∀ H, Rep k.K H d v
  | .tup es => es.ok k
  | .lst es => es.ok k
  | .bin _ a b => a.ok k ∧ b.ok k
  | .neg a => a.ok k
  | .cmp _ a b => a.ok k ∧ b.ok k
  | .chain _ _ a b d => a.ok k ∧ b.ok k ∧ d.ok k
  | .bop _ es => es.ok k
  | .not_ a => a.ok k
  | .ife t a b => t.ok k ∧ a.ok k ∧ b.ok k
  | .idx a b => a.ok k ∧ b.ok k
  | .slc a lo hi => a.ok k ∧ lo.ok k ∧ hi.ok k
  | .fld a C f => Cf k.K C f ∧ a.ok k
  | .isa a c f => Isa k c f ∧ a.ok k
  | .bcall b es => k.mg b.nm = none ∧ (b.isRepr = true → k.A.guards = some []) ∧ es.ok k
  | .bm _ a es => a.ok k ∧ es.ok k
  | .call x S es => Callee k x es.len [] S ∧ es.ok k
  | .callK x S es ks kes => Callee k x es.len ks S ∧ kes.len = ks.length ∧ es.ok k ∧ kes.ok k
  | .lc _ _ w t elt => w.ok k ∧ t.ok k ∧ elt.ok k
  | .dc kd _ _ w t kx vx => (match kd with | .k => True | .t P w => P = k.prog ∧ w = k.w) ∧ w.ok k ∧ t.ok k ∧ kx.ok k ∧ vx.ok k
  | .big => k.mg "int" = none ∧ k.base.NoDigits
  | .cmpO neg C S a b => OwnM k C "__eq__" S ∧ (neg = true → NeM k C) ∧ a.ok k ∧ b.ok k
  | .lenO C S a => k.mg "len" = none ∧ OwnM k C "__len__" S ∧ a.ok k
  | .dnew kd => (match kd with | .k => True | .t P w => P = k.prog ∧ w = k.w)
  | .inX P w _ a b => P = k.prog ∧ w = k.w ∧ a.ok k ∧ b.ok k
  | .getX P w a b => P = k.prog ∧ w = k.w ∧ a.ok k ∧ b.ok k
  | .sortX a => k.mg "sorted" = none ∧ a.ok k
  | .meth C m S a es => MethM k C m S ∧ a.ok k ∧ es.ok k
  | _ => True
def Es.ok (k : Co) : Es → Prop
  | .nil => True
  | .cons e es => e.ok k ∧ es.ok k
def Oe.ok (k : Co) : Oe → Prop
  | .none => True
  | .some e => e.ok k
def Wk.ok (k : Co) : Wk → Prop
  | .seq e => e.ok k
  | .str e => e.ok k
  | .r1 e => k.mg "range" = none ∧ e.ok k
  | .r2 a b => k.mg "range" = none ∧ a.ok k ∧ b.ok k
  | .zip a b => k.mg "zip" = none ∧ a.ok k ∧ b.ok k
  | .enm e => k.mg "enumerate" = none ∧ e.ok k
end
end DL

set_option Elab.async false
set_option linter.all false
set_option maxRecDepth 100000
set_option maxHeartbeats 8000000
/-! DLj: expressions do as they tell. -/
namespace DL
open PySem L2
structure Gd (c : Sc) (X : Cx) : Prop where
  n : X.N = c.N
  nd : X.N.Nodup
  sc : X.env.scope = c.sc
  fn : X.fn = c.fn
  calm : X.calm = true
  ru : Ru X
theorem band {a b : Bool} (h : (a && b) = true) : a = true ∧ b = true := Bool.and_eq_true_iff.mp h
theorem bnot {a : Bool} (h : (!a) = true) : a = false := by cases a <;> first | rfl | cases h
section
variable {c : Sc} {X : Cx}
theorem Gd.gl (g : Gd c X) {x : Str} (h : glB c x = true) : Gl X x ∧ (x == ("__debug__" : Str)) = false := by
  obtain ⟨h1, h2⟩ := band h
  refine ⟨?_, bnot h2⟩
  show X.env.scope.names.lookup x = _
  rw [g.sc]
  exact of_decide_eq_true h1
theorem Gd.var (g : Gd c X) {i : Nat} {x : Str} {p : Pos} (h : nmB c i x = true) : PE X (.Name x p) (tVar i) := by
  obtain ⟨h1, h2⟩ := band h
  obtain ⟨h2, h3⟩ := band h2
  obtain ⟨h3, h4⟩ := band h3
  refine pe_var (by rw [g.n]; exact of_decide_eq_true h1) ?_ (bnot h3) (bnot h4)
  unfold Vis
  rw [g.sc]
  split at h2
  · rename_i e; exact .inl e
  · rename_i e; exact .inr (.inl e)
  · rename_i e; exact .inr (.inr e)
  · cases h2
theorem Gd.name (g : Gd c X) {i : Nat} {x : Str} {p : Pos} (h : tgB c i x = true) : PG X (.Name x p) (gName i) := by
  obtain ⟨h1, h2⟩ := band h
  have e1 : X.N[i]? = some x := by rw [g.n]; exact of_decide_eq_true h1
  split at h2
  · rename_i e
    exact pg_name g.nd e1 (.inl (by rw [g.sc]; exact e)) (.inr (by rw [g.sc]; exact e))
  · rename_i e
    exact pg_name g.nd e1 (.inr (by rw [g.sc]; exact e)) (.inl (by rw [g.fn]; exact h2))
  · cases h2
theorem Gd.blk (g : Gd c X) {s : Shared} {H : Hp} {scope : Scope} {cl : List (Str × Addr)} {C : Addr} {fp : List Addr} : Gd (c.blk scope) (X.blk s H scope (compEnvC scope cl C X.env) fp) :=
  ⟨g.n, g.nd, by show relS scope X.env.scope = _; rw [g.sc]; rfl, rfl, g.calm, g.ru⟩
theorem asg_each {x : Expr} (h : notStar x = true) (xs : List Expr) (env : Env) : (assignEach (x :: xs) env).map (·.2) = assign x env :: (assignEach xs env).map (·.2) := by
  cases x <;> first | rfl | cases h
theorem asg_len {env : Env} : ∀ {xs : List Expr}, xs.all notStar = true → (assignEach xs env).length = xs.length ∧ (assignEach xs env).findIdx? (·.1) = none
  | [], _ => ⟨rfl, rfl⟩
  | x :: xs, h => by
    rw [List.all_cons] at h
    obtain ⟨h1, h2⟩ := band h
    obtain ⟨a1, a2⟩ := asg_len (env := env) h2
    have e : assignEach (x :: xs) env = (false, assign x env) :: assignEach xs env := by cases x <;> first | rfl | cases h1
    rw [e]
    refine ⟨by rw [List.length_cons, a1]; rfl, ?_⟩
    rw [List.findIdx?_cons]
    simp [a2]
mutual
theorem Tg.snd (g : Gd c X) : ∀ (t : Tg) (x : Expr), t.mt c x = true → PG X x (gD X.K t)
  | .name i, x, h => by
    unfold Tg.mt at h
    split at h
    · exact pgd_name (g.name h)
    · cases h
  | .tup ts, x, h => by
    unfold Tg.mt at h
    split at h
    · obtain ⟨h1, h2, h3⟩ := Tgs.snd g ts _ h
      obtain ⟨a1, a2⟩ := asg_len (env := X.env) h2
      exact pgd_tup g.calm h1 (by rw [a1, h3]) a2
    · cases h
theorem Tgs.snd (g : Gd c X) : ∀ (t : Tgs) (x : List Expr), t.mt c x = true → PGs X x (gDs X.K t) ∧ x.all notStar = true ∧ x.length = t.len
  | .nil, x, h => by
    unfold Tgs.mt at h
    split at h
    · exact ⟨pgds_nil, rfl, rfl⟩
    · cases h
  | .cons t ts, x, h => by
    unfold Tgs.mt at h
    split at h
    · obtain ⟨h1, h2⟩ := band h
      obtain ⟨h2, h3⟩ := band h2
      obtain ⟨a1, a2, a3⟩ := Tgs.snd g ts _ h3
      refine ⟨pgds_cons (Tg.snd g t _ h2) a1 (asg_each h1 _ _), by rw [List.all_cons, h1, a2]; rfl, ?_⟩
      rw [List.length_cons, a3]
      rfl
    · cases h
end
theorem negd : UnR X (unaryOp .USub) (rD1 X.K negD) := fun pins s σ H x v Q I rx h => by
  obtain ⟨dx, M, F, Q0, r1, m, fr, ⟨i, rfl, hq⟩, g⟩ := h
  cases r1
  exact un_neg pins s σ H _ v Q I rx ⟨i, rfl, g _ M _ H hq (.refl _) fr.frm m rfl⟩
/-- isinstance -/
theorem isa_pe {f : D → Mp → Option Bool} {cl : Cl} {a : Expr} {wa : WE} {y : Str} {pos p p2 : Pos} (k : Isa (co X) cl f) (ha : PE X a (tD X.K wa)) (hs : notStar a = true) (hg : Gl X "isinstance") (hgy : Gl X y ∧ (y == ("__debug__" : Str)) = false)
    (hy : match cl with | .bty t => y = Str.ofString t ∧ tyNames.contains t = true | .own z _ => y = z) : PE X (.Call (.Name "isinstance" p) [a, .Name y p2] [] pos) (tD X.K (w1 (isaD f) wa)) := by
  have fin : ∀ (cv : V) (u : Value), ClsV cv u → (∀ H M d v b, RepM X.K H M → Rep X.K H d v → f d M = some b → ∃ t, TyX X.K H v t ∧ PySem.W.kitOne X.K t u = some b) → PE X (.Name y p2) (tC cv) → PE X (.Call (.Name "isinstance" p) [a, .Name y p2] [] pos) (tD X.K (w1 (isaD f) wa)) := by
    intro cv u hcl hok hpe
    refine (pe_callB call_isi hg k.mi PyProof.Rows.boot_isinstance (pa_cons ha (pa_cons hpe pa_nil) (star_of hs _ _)) (by decide) (by decide) (star_of hs _ _) rfl).imp fun σ H Q => ?_
    rintro ⟨ρ, M, F, Q0, s, q, g⟩
    refine ⟨ρ, M, F, _, s, q, fun x M1 v H1 q1 t1 f1 r1 p1 => ?_⟩
    obtain ⟨b, e, q1⟩ := q1
    obtain ⟨t, ty, kt⟩ := hok H1 M1 x v b r1 p1 e
    exact ⟨v, cv, t, u, b, rfl, hcl, ty, kt, g _ M1 _ H1 q1 t1 f1 r1 rfl⟩
  cases cl with
  | own z C =>
    obtain rfl : y = z := hy
    have km : X.mg y = some (.ref C) := k.cl
    exact fin (.ref C) (.ref C) (.own C) k.ok (pe_glob hgy.1 km rfl hgy.2)
  | bty t =>
    obtain ⟨hy, ht⟩ : y = Str.ofString t ∧ tyNames.contains t = true := hy
    subst hy
    have km : X.mg (Str.ofString t) = none := k.cl
    have hb : bootBuiltins (Str.ofString t) = some (.type t) ∧ Str.ofString t ≠ "__name__" := by
      have e : t = "int" ∨ t = "bool" ∨ t = "str" ∨ t = "tuple" ∨ t = "list" ∨ t = "dict" := by
        simpa [tyNames] using ht
      rcases e with rfl | rfl | rfl | rfl | rfl | rfl
      · exact ⟨PyProof.Rows.boot_int, by decide⟩
      · exact ⟨PyProof.Rows.boot_bool, by decide⟩
      · exact ⟨PyProof.Rows.boot_str, by decide⟩
      · exact ⟨PyProof.Rows.boot_tuple, by decide⟩
      · exact ⟨PyProof.Rows.boot_list, by decide⟩
      · exact ⟨PyProof.Rows.boot_dict, by decide⟩
    exact fin (.ty t) (.type t) (.ty t) k.ok (pe_bltn hgy.1 km hb.1 rfl hb.2 hgy.2)
theorem call_case {n : Str} {S : Spec} {es : Es} {xs : List Expr} {p pos : Pos} (hx : Callee (co X) n es.len [] S) (g : Gd c X) (h2 : glB c n = true) (h3 : es.mt c xs = true) (a1 : PA X xs (tDN X.K es.len es.wp)) (a2 : xs.all notStar = true) : PE X (.Call (.Name n p) xs [] pos) (tD X.K (wCall S es.wp)) := by
  obtain ⟨g1, g2⟩ := g.gl h2
  cases xs with
  | nil =>
    cases es with
    | nil => unfold Es.wp; exact pd_call0 hx g.calm g1 g2
    | cons e es => unfold Es.mt at h3; cases h3
  | cons z zs => exact pd_call hx g.calm g1 g2 a1 a2
theorem meth_case {C : Addr} {m : Str} {S : Spec} {a : Expr} {wa : WE} {es : Es} {ys : List Expr} {ap p : Pos} (hM : MethM (co X) C m S) (ho : PE X a (tD X.K wa)) (he : PA X ys (tDN X.K es.len es.wp) ∧ ys.all notStar = true) (hm : es.mt c ys = true) (hb : plainBase a = true) (hl : ys.length < 30) (hline : (ap.endLine == p.line) = true) :
    PE X (.Call (.Attribute a m ap) ys [] p) (tD X.K (wMeth C m S wa es.wp)) := by
  cases ys with
  | nil =>
    cases es with
    | nil => unfold Es.wp; exact pd_meth0 hM ho hb hline
    | cons e r => unfold Es.mt at hm; cases hm
  | cons y ys => exact pd_methA hM ho (pdn_a he.1) hb he.2 hl hline
theorem callK_case {n : Str} {S : Spec} {es kes : Es} {ks : List Str} {xs : List Expr} {kws : List Keyword} {p pos : Pos} (hx : Callee (co X) n es.len ks S) (g : Gd c X) (h2 : glB c n = true) (h3 : es.mt c xs = true) (a1 : PA X xs (tDN X.K es.len es.wp)) (a2 : xs.all notStar = true)
    (a3 : PK X kws (tDN X.K ks.length kes.wp)) (hk : kwNames kws = ks.map some) : PE X (.Call (.Name n p) xs kws pos) (tD X.K (wCallK S es.wp kes.wp)) := by
  obtain ⟨g1, g2⟩ := g.gl h2
  cases xs with
  | nil =>
    cases es with
    | nil =>
      have e0 : Es.nil.wp = wNil := by unfold Es.wp; rfl
      rw [e0]; exact pd_callK0 hx g.calm g1 g2 a3 hk
    | cons e es => unfold Es.mt at h3; cases h3
  | cons z zs => exact pd_callK hx g.calm g1 g2 a1 a2 a3 hk
theorem big_pe {p1 p2 p3 p4 p5 p6 pos : Pos} {k1 k2 k3 : Nat} (hm : X.mg "int" = none) (hd : X.base.NoDigits) (hg : Gl X "int") : PE X (.Call (.Name "int" p1) [.BinOp (.Constant (.str "1") k1 p2) .Add (.BinOp (.Constant (.str "0") k2 p3) .Mult (.Constant (.int 900) k3 p4) p5) p6] [] pos) (tD X.K (wC (.int potTop))) := by
  have m0 : OpR X (binaryOp .Mult) (rD X.K fun x y M Q => x = .str "0" ∧ y = .int 900 ∧ Q (.str (Txt.mul "0" 900)) M) := fun pins s σ H x y v u Q I rx ry h => by
    obtain ⟨dx, dy, M, F, Q0, r1, r2, m, fr, ⟨rfl, rfl, h⟩, g⟩ := h
    cases r1; cases r2
    exact op_mul_str pins s σ H _ _ v u Q I rx ry ⟨rfl, rfl, g _ M _ H h (.refl _) fr.frm m rfl⟩
  have c0 : ∀ {z : PySem.Str} {k : Nat} {p : Pos}, PE X (.Constant (.str z) k p) (tD X.K (wC (.str z))) := pd_c pe_str fun H => by unfold Rep; rfl
  have c1 : ∀ {z : Int} {k : Nat} {p : Pos}, PE X (.Constant (.int z) k p) (tD X.K (wC (.int z))) := pd_c pe_int fun H => by unfold Rep; rfl
  have s0 := pd_bin (pos := p6) od_add (c0 (z := "1") (k := k1) (p := p2)) (pd_bin (pos := p5) m0 (c0 (z := "0") (k := k2) (p := p3)) (c1 (z := 900) (k := k3) (p := p4)))
  refine (pe_callTy (cd_big hd) hg hm PyProof.Rows.boot_int (pa_cons s0 pa_nil (star_of rfl _ _)) (by decide) (by decide) (star_of rfl _ _) rfl).imp fun σ H Q => ?_
  rintro ⟨ρ, M, F, Q0, s, q, g⟩
  refine ⟨ρ, M, F, fun x M1 => x = .str bigT ∧ Q0 (.int potTop) M1, s, ?_, fun x M1 v H1 q1 t1 f1 r1 p1 => ?_⟩
  · refine ⟨rfl, rfl, ?_, rfl, q⟩
    show ("1" : PySem.Str).length + (Txt.mul "0" 900).length ≤ sizeLine
    rw [bigL, sizeLine_eq]
    decide
  · obtain ⟨rfl, q1⟩ := q1
    cases p1
    exact ⟨rfl, g _ M1 _ H1 q1 t1 f1 r1 rfl⟩
theorem never_t {x : Expr} : PT X x (tDT X.K fun _ _ _ => False) := ⟨fun pins s σ H Q I h => by
  obtain ⟨_, _, _, _, _, z, _⟩ := h
  exact z.elim⟩
theorem never_e {x : Expr} : PE X x (tD X.K fun _ _ _ => False) := ⟨fun pins s σ H Q I h => by
  obtain ⟨_, _, _, _, _, z, _⟩ := h
  exact z.elim⟩
theorem never_w {x : Expr} : PW X x (tDT X.K fun _ _ _ => False) := ⟨fun wh pins s σ H Q I h => by
  obtain ⟨_, _, _, _, _, z, _⟩ := h
  exact z.elim⟩
end
mutual
theorem E.snd : ∀ (e : E) {c : Sc} {X : Cx} (x : Expr), Gd c X → e.ok (co X) → e.mt c x = true → PE X x (tD X.K e.wp)
  | .var i, c, X, x, g, ok, h => by
    unfold E.mt at h
    split at h
    · unfold E.wp; exact pd_var (x := "") (g.var h)
    · cases h
  | .int i, c, X, x, g, ok, h => by
    unfold E.mt at h
    split at h
    · obtain rfl := of_decide_eq_true h
      unfold E.wp; exact pd_c pe_int fun H => by unfold Rep; rfl
    · cases h
  | .str i, c, X, x, g, ok, h => by
    unfold E.mt at h
    split at h
    · obtain rfl := of_decide_eq_true h
      unfold E.wp; exact pd_c pe_str fun H => by unfold Rep; rfl
    · cases h
  | .bl i, c, X, x, g, ok, h => by
    unfold E.mt at h
    split at h
    · obtain rfl := of_decide_eq_true h
      unfold E.wp; exact pd_c pe_bl fun H => by unfold Rep; rfl
    · cases h
  | .non, c, X, x, g, ok, h => by
    unfold E.mt at h
    split at h
    · unfold E.wp; exact pd_c pe_non fun H => by unfold Rep; rfl
    · cases h
  | .glob n d, c, X, x, g, ok, h => by
    unfold E.mt at h
    split at h
    · obtain ⟨h1, h2⟩ := band h
      obtain rfl := of_decide_eq_true h1
      unfold E.ok at ok
      obtain ⟨u, v, hm, r, hr⟩ := ok
      obtain ⟨g1, g2⟩ := g.gl h2
      unfold E.wp; exact pd_c (pe_glob g1 hm r g2) hr
    · cases h
  | .tup es, c, X, x, g, ok, h => by
    unfold E.mt at h
    split at h
    · unfold E.ok at ok
      unfold E.wp; exact pd_tup (pdn_a (Es.snd es _ g ok h).1)
    · cases h
  | .lst es, c, X, x, g, ok, h => by
    unfold E.mt at h
    split at h
    · unfold E.ok at ok
      unfold E.wp; exact pd_lst (pdn_a (Es.snd es _ g ok h).1)
    · cases h
  | .bin o a b, c, X, x, g, ok, h => by
    unfold E.mt at h
    split at h
    · obtain ⟨h1, h2⟩ := band h
      obtain ⟨h2, h3⟩ := band h2
      obtain rfl := of_decide_eq_true h1
      unfold E.ok at ok
      unfold E.wp; exact pd_bin (binF_ok o) (E.snd a _ g ok.1 h2) (E.snd b _ g ok.2 h3)
    · cases h
  | .neg a, c, X, x, g, ok, h => by
    unfold E.mt at h
    split at h
    · unfold E.ok at ok
      unfold E.wp; exact pd_un negd (E.snd a _ g ok h)
    · cases h
  | .cmp o a b, c, X, x, g, ok, h => by
    unfold E.mt at h
    split at h
    · obtain ⟨h1, h2⟩ := band h
      obtain ⟨h2, h3⟩ := band h2
      obtain ⟨h3, h4⟩ := band h3
      obtain rfl := of_decide_eq_true h1
      unfold E.ok at ok
      unfold E.wp; exact pd_cmp (cmpF_ok g.ru o) (E.snd a _ g ok.1 h2) (E.snd b _ g ok.2 h3) (bnot h4)
    · cases h
  | .chain o p a b d, c, X, x, g, ok, h => by
    unfold E.mt at h
    split at h
    · obtain ⟨h1, h2⟩ := band h
      obtain ⟨h2, h3⟩ := band h2
      obtain ⟨h3, h4⟩ := band h3
      obtain ⟨h4, h5⟩ := band h4
      obtain ⟨h5, h6⟩ := band h5
      obtain rfl := of_decide_eq_true h1
      obtain rfl := of_decide_eq_true h2
      unfold E.ok at ok
      unfold E.wp; exact pd_chain (cmpF_ok g.ru o) (cmpF_ok g.ru p) (E.snd a _ g ok.1 h3) (E.snd b _ g ok.2.1 h4) (E.snd d _ g ok.2.2 h5) (bnot h6)
    · cases h
  | .bop o es, c, X, x, g, ok, h => by
    unfold E.mt at h
    split at h
    · obtain ⟨h1, h2⟩ := band h
      obtain rfl := of_decide_eq_true h1
      unfold E.ok at ok
      unfold E.wp; exact Es.sndV es _ g ok h2
    · cases h
  | .not_ a, c, X, x, g, ok, h => by
    unfold E.mt at h
    split at h
    · unfold E.ok at ok
      unfold E.wp; exact pd_not (E.snd a _ g ok h)
    · cases h
  | .ife t a b, c, X, x, g, ok, h => by
    unfold E.mt at h
    split at h
    · obtain ⟨h1, h2⟩ := band h
      obtain ⟨h2, h3⟩ := band h2
      unfold E.ok at ok
      unfold E.wp; exact pd_if (E.sndT t _ g ok.1 h1) (E.snd a _ g ok.2.1 h2) (E.snd b _ g ok.2.2 h3)
    · cases h
  | .idx a b, c, X, x, g, ok, h => by
    unfold E.mt at h
    split at h
    · obtain ⟨h1, h2⟩ := band h
      obtain ⟨h2, h3⟩ := band h2
      unfold E.ok at ok
      unfold E.wp; exact pd_ix (E.snd a _ g ok.1 h1) (E.snd b _ g ok.2 h2) (ix_plain h3)
    · cases h
  | .slc a lo hi, c, X, x, g, ok, h => by
    unfold E.mt at h
    split at h
    · obtain ⟨h1, h2⟩ := band h
      obtain ⟨h2, h3⟩ := band h2
      unfold E.ok at ok
      unfold E.wp; exact pd_slice (E.snd a _ g ok.1 h1) (Oe.snd lo _ g ok.2.1 h2) (Oe.snd hi _ g ok.2.2 h3)
    · cases h
  | .fld a C f, c, X, x, g, ok, h => by
    unfold E.mt at h
    split at h
    · obtain ⟨h1, h2⟩ := band h
      obtain ⟨h2, h3⟩ := band h2
      obtain rfl := of_decide_eq_true h1
      unfold E.ok at ok
      unfold E.wp; exact pd_fld ok.1 (E.snd a _ g ok.2 h2) h3
    · cases h
  | .isa a k f, c, X, x, g, ok, h => by
    unfold E.mt at h
    split at h
    · obtain ⟨h1, h2⟩ := band h
      obtain ⟨h2, h3⟩ := band h2
      obtain ⟨h3, h4⟩ := band h3
      obtain ⟨h4, h5⟩ := band h4
      obtain ⟨h5, h6⟩ := band h5
      obtain rfl := of_decide_eq_true h1
      unfold E.ok at ok
      unfold E.wp
      refine isa_pe ok.1 (E.snd a _ g ok.2 h3) h4 (g.gl h2).1 (g.gl h5) ?_
      cases k with
      | bty t =>
        obtain ⟨h6, h7⟩ := band h6
        exact ⟨of_decide_eq_true h6, h7⟩
      | own z C => exact of_decide_eq_true h6
    · cases h
  | .bcall b es, c, X, x, g, ok, h => by
    unfold E.mt at h
    split at h
    · obtain ⟨h1, h2⟩ := band h
      obtain ⟨h2, h3⟩ := band h2
      obtain rfl := of_decide_eq_true h1
      unfold E.ok at ok
      obtain ⟨a1, a2⟩ := Es.snd es _ g ok.2.2 h3
      unfold E.wp; exact b.pe g.ru g.calm ok.2.1 (g.gl h2).1 ok.1 (pdn_a a1) a2
    · cases h
  | .bm m a es, c, X, x, g, ok, h => by
    unfold E.mt at h
    split at h
    · obtain ⟨h1, h2⟩ := band h
      obtain ⟨h2, h3⟩ := band h2
      obtain ⟨h3, h4⟩ := band h3
      obtain ⟨h4, h5⟩ := band h4
      obtain ⟨h5, h6⟩ := band h5
      obtain rfl := of_decide_eq_true h1
      unfold E.ok at ok
      obtain ⟨a1, a2⟩ := Es.snd es _ g ok.2 h3
      unfold E.wp; exact m.pe (E.snd a _ g ok.1 h2) (pdn_a a1) h4 a2 (of_decide_eq_true h5) h6
    · cases h
  | .call n S es, c, X, x, g, ok, h => by
    unfold E.mt at h
    split at h
    · obtain ⟨h1, h2⟩ := band h
      obtain ⟨h2, h3⟩ := band h2
      obtain rfl := of_decide_eq_true h1
      unfold E.ok at ok
      obtain ⟨a1, a2⟩ := Es.snd es _ g ok.2 h3
      unfold E.wp; exact call_case ok.1 g h2 h3 a1 a2
    · cases h
  | .callK n S es ks kes, c, X, x, g, ok, h => by
    unfold E.mt at h
    split at h
    · obtain ⟨h1, h2⟩ := band h
      obtain ⟨h2, h3⟩ := band h2
      obtain ⟨h3, h4⟩ := band h3
      obtain ⟨h4, h5⟩ := band h4
      obtain rfl := of_decide_eq_true h1
      unfold E.ok at ok
      obtain ⟨a1, a2⟩ := Es.snd es _ g ok.2.2.1 h3
      have a3 := Es.sndK kes _ g ok.2.2.2 h4
      rw [ok.2.1] at a3
      unfold E.wp; exact callK_case ok.1 g h2 h3 a1 a2 a3 (of_decide_eq_true h5)
    · cases h
  | .big, c, X, x, g, ok, h => by
    unfold E.mt at h
    split at h
    · obtain ⟨h1, h2⟩ := band h
      obtain ⟨k2, k3⟩ := band h2
      obtain ⟨h3, k4⟩ := band k3
      obtain ⟨h4, h5⟩ := band k4
      clear h h2 k3 k4
      obtain rfl := of_decide_eq_true h1
      obtain rfl := of_decide_eq_true h3
      obtain rfl := of_decide_eq_true h4
      obtain rfl := of_decide_eq_true h5
      unfold E.ok at ok
      unfold E.wp; exact big_pe ok.1 ok.2 (g.gl k2).1
    · cases h
  | .cmpO neg C S a b, c, X, x, g, ok, h => by
    unfold E.mt at h
    split at h
    · obtain ⟨h1, j2⟩ := band h
      obtain ⟨h2, j3⟩ := band j2
      obtain ⟨h3, h4⟩ := band j3
      clear h j2 j3
      obtain rfl := of_decide_eq_true h1
      unfold E.ok at ok
      unfold E.wp
      cases neg with
      | false => exact pd_cmp (od_eqO ok.1) (E.snd a _ g ok.2.2.1 h2) (E.snd b _ g ok.2.2.2 h3) (bnot h4)
      | true => exact pd_cmp (od_neO ok.1 (ok.2.1 rfl)) (E.snd a _ g ok.2.2.1 h2) (E.snd b _ g ok.2.2.2 h3) (bnot h4)
    · cases h
  | .lenO C S a, c, X, x, g, ok, h => by
    unfold E.mt at h
    split at h
    · obtain ⟨h1, h2⟩ := band h
      obtain ⟨h2, h3⟩ := band h2
      obtain ⟨h3, h4⟩ := band h3
      obtain rfl := of_decide_eq_true h1
      unfold E.ok at ok
      unfold E.wp
      exact callB_pe (cd_lenO ok.2.1) PySem.boot_len (by decide) (by decide) (g.gl h2).1 ok.1 (pda_cons (E.snd a _ g ok.2.2 h3) pda_nil (star_of h4 _ _)) (by simp [h4])
    · cases h
  | .dnew kd, c, X, x, g, ok, h => by
    unfold E.mt at h
    split at h
    · unfold E.ok at ok
      unfold E.wp
      exact pd_dnew kd (by cases kd <;> exact ok)
    · cases h
  | .inX P w neg a b, c, X, x, g, ok, h => by
    unfold E.mt at h
    split at h
    · obtain ⟨h1, j2⟩ := band h
      obtain ⟨h2, j3⟩ := band j2
      obtain ⟨h3, h4⟩ := band j3
      clear h j2 j3
      obtain rfl := of_decide_eq_true h1
      unfold E.ok at ok
      unfold E.wp
      exact pd_cmp (od_inX P w ok.1 ok.2.1 neg g.ru) (E.snd a _ g ok.2.2.1 h2) (E.snd b _ g ok.2.2.2 h3) (bnot h4)
    · cases h
  | .getX P w a b, c, X, x, g, ok, h => by
    unfold E.mt at h
    split at h
    · obtain ⟨h1, h2⟩ := band h
      obtain ⟨h2, h3⟩ := band h2
      unfold E.ok at ok
      unfold E.wp; exact pd_getX ok.1 ok.2.1 g.ru (E.snd a _ g ok.2.2.1 h1) (E.snd b _ g ok.2.2.2 h2) (ix_plain h3)
    · cases h
  | .sortX a, c, X, x, g, ok, h => by
    unfold E.mt at h
    split at h
    · obtain ⟨h1, h2⟩ := band h
      obtain ⟨h2, h3⟩ := band h2
      obtain ⟨h3, h4⟩ := band h3
      obtain rfl := of_decide_eq_true h1
      unfold E.ok at ok
      unfold E.wp
      exact callB_pe (cd_sortX g.calm g.ru) PyProof.Rows.boot_sorted (by decide) (by decide) (g.gl h2).1 ok.1 (pda_cons (E.snd a _ g ok.2 h3) pda_nil (star_of h4 _ _)) (by simp [h4])
    · cases h
  | .meth C m S a es, c, X, x, g, ok, h => by
    unfold E.mt at h
    split at h
    · obtain ⟨h1, h2⟩ := band h
      obtain ⟨h2, h3⟩ := band h2
      obtain ⟨h3, h4⟩ := band h3
      obtain ⟨h4, h5⟩ := band h4
      obtain ⟨h5, h6⟩ := band h5
      obtain rfl := of_decide_eq_true h1
      unfold E.ok at ok
      unfold E.wp
      exact meth_case ok.1 (E.snd a _ g ok.2.1 h2) (Es.snd es _ g ok.2.2 h3) h3 h4 (of_decide_eq_true h5) h6
    · cases h
  | .dc kd own gt w t kx vx, c, X, x, g, ok, h => by
    unfold E.mt at h
    split at h
    · obtain ⟨h1, h2⟩ := band h
      obtain ⟨h2, h3⟩ := band h2
      obtain ⟨h3, h4⟩ := band h3
      obtain ⟨h4, h5⟩ := band h4
      obtain ⟨h5, h6⟩ := band h5
      obtain ⟨h6, h7⟩ := band h6
      obtain ⟨h7, h8⟩ := band h7
      obtain ⟨h8, h9⟩ := band h8
      obtain rfl := of_decide_eq_true h1
      unfold E.ok at ok
      unfold E.wp
      refine pd_dc kd (by cases kd <;> exact ok.1) g.ru g.calm g.nd (Wk.snd w _ _ g ok.2.1 h4) (blkOk_by (by rw [g.n, g.sc]; exact h2)) (fun s H C cl fp => Tg.snd (g.blk) gt _ h5) (fun s H C cl fp => Oe.sndI t _ (g.blk (s := s) (H := H) (cl := cl) (C := C) (fp := fp)) ok.2.2.1 h6) (fun s H C cl fp => E.snd kx _ (g.blk (s := s) (H := H) (cl := cl) (C := C) (fp := fp)) ok.2.2.2.1 h7) (fun s H C cl fp => E.snd vx _ (g.blk (s := s) (H := H) (cl := cl) (C := C) (fp := fp)) ok.2.2.2.2 h8) (fun v => set_plain h3 _ v) ?_
      intro j hj
      have := List.all_eq_true.mp h9 j hj
      simpa using this
    · cases h
  | .lc own gt w t elt, c, X, x, g, ok, h => by
    unfold E.mt at h
    split at h
    · obtain ⟨h1, h2⟩ := band h
      obtain ⟨h2, h3⟩ := band h2
      obtain ⟨h3, h4⟩ := band h3
      obtain ⟨h4, h5⟩ := band h4
      obtain ⟨h5, h6⟩ := band h5
      obtain ⟨h6, h7⟩ := band h6
      obtain ⟨h7, h8⟩ := band h7
      obtain rfl := of_decide_eq_true h1
      unfold E.ok at ok
      unfold E.wp
      refine pd_lc g.calm g.nd (Wk.snd w _ _ g ok.1 h4) (blkOk_by (by rw [g.n, g.sc]; exact h2)) (fun s H C cl fp => Tg.snd (g.blk) gt _ h5) (fun s H C cl fp => Oe.sndI t _ (g.blk (s := s) (H := H) (cl := cl) (C := C) (fp := fp)) ok.2.1 h6) (fun s H C cl fp => E.snd elt _ (g.blk (s := s) (H := H) (cl := cl) (C := C) (fp := fp)) ok.2.2 h7) (fun v => set_plain h3 _ v) ?_
      intro j hj
      have := List.all_eq_true.mp h8 j hj
      simpa using this
    · cases h
theorem E.sndT : ∀ (e : E) {c : Sc} {X : Cx} (x : Expr), Gd c X → e.ok (co X) → e.mt c x = true → PT X x (tDT X.K e.wpT)
  | .var i, c, X, x, g, ok, h => by
    unfold E.mt at h
    split at h
    · unfold E.wpT; exact pdt_truth (pd_var (x := "") (g.var h)) (test_plain rfl _)
    · cases h
  | .bl i, c, X, x, g, ok, h => by
    unfold E.mt at h
    split at h
    · obtain rfl := of_decide_eq_true h
      unfold E.wpT; exact pdt_truth (pd_c pe_bl fun H => by unfold Rep; rfl) (test_plain rfl _)
    · cases h
  | .cmp o a b, c, X, x, g, ok, h => by
    unfold E.mt at h
    split at h
    · obtain ⟨h1, h2⟩ := band h
      obtain ⟨h2, h3⟩ := band h2
      obtain ⟨h3, h4⟩ := band h3
      obtain rfl := of_decide_eq_true h1
      unfold E.ok at ok
      unfold E.wpT; exact pdt_cmp (cmpF_ok g.ru o) (E.snd a _ g ok.1 h2) (E.snd b _ g ok.2 h3) (bnot h4)
    · cases h
  | .chain o p a b d, c, X, x, g, ok, h => by
    unfold E.mt at h
    split at h
    · obtain ⟨h1, h2⟩ := band h
      obtain ⟨h2, h3⟩ := band h2
      obtain ⟨h3, h4⟩ := band h3
      obtain ⟨h4, h5⟩ := band h4
      obtain ⟨h5, h6⟩ := band h5
      obtain rfl := of_decide_eq_true h1
      obtain rfl := of_decide_eq_true h2
      unfold E.ok at ok
      unfold E.wpT; exact pdt_chain (cmpF_ok g.ru o) (cmpF_ok g.ru p) (E.snd a _ g ok.1 h3) (E.snd b _ g ok.2.1 h4) (E.snd d _ g ok.2.2 h5) (bnot h6)
    · cases h
  | .bop o es, c, X, x, g, ok, h => by
    unfold E.mt at h
    split at h
    · obtain ⟨h1, h2⟩ := band h
      obtain rfl := of_decide_eq_true h1
      unfold E.ok at ok
      unfold E.wpT; exact (Es.sndT es _ g ok h2).pt
    · cases h
  | .not_ a, c, X, x, g, ok, h => by
    unfold E.mt at h
    split at h
    · unfold E.ok at ok
      unfold E.wpT; exact pdt_not (E.sndT a _ g ok h)
    · cases h
  | .idx a b, c, X, x, g, ok, h => by
    unfold E.mt at h
    split at h
    · obtain ⟨h1, h2⟩ := band h
      obtain ⟨h2, h3⟩ := band h2
      unfold E.ok at ok
      unfold E.wpT; exact pdt_truth (pd_ix (E.snd a _ g ok.1 h1) (E.snd b _ g ok.2 h2) (ix_plain h3)) (test_plain rfl _)
    · cases h
  | .fld a C f, c, X, x, g, ok, h => by
    unfold E.mt at h
    split at h
    · obtain ⟨h1, h2⟩ := band h
      obtain ⟨h2, h3⟩ := band h2
      obtain rfl := of_decide_eq_true h1
      unfold E.ok at ok
      unfold E.wpT; exact pdt_truth (pd_fld ok.1 (E.snd a _ g ok.2 h2) h3) (test_plain rfl _)
    · cases h
  | .isa a k f, c, X, x, g, ok, h => by
    unfold E.mt at h
    split at h
    · obtain ⟨h1, h2⟩ := band h
      obtain ⟨h2, h3⟩ := band h2
      obtain ⟨h3, h4⟩ := band h3
      obtain ⟨h4, h5⟩ := band h4
      obtain ⟨h5, h6⟩ := band h5
      obtain rfl := of_decide_eq_true h1
      unfold E.ok at ok
      unfold E.wpT
      refine pdt_truth (isa_pe ok.1 (E.snd a _ g ok.2 h3) h4 (g.gl h2).1 (g.gl h5) ?_) (test_plain rfl _)
      cases k with
      | bty t =>
        obtain ⟨h6, h7⟩ := band h6
        exact ⟨of_decide_eq_true h6, h7⟩
      | own z C => exact of_decide_eq_true h6
    · cases h
  | .bcall b es, c, X, x, g, ok, h => by
    unfold E.mt at h
    split at h
    · obtain ⟨h1, h2⟩ := band h
      obtain ⟨h2, h3⟩ := band h2
      obtain rfl := of_decide_eq_true h1
      unfold E.ok at ok
      obtain ⟨a1, a2⟩ := Es.snd es _ g ok.2.2 h3
      unfold E.wpT; exact pdt_truth (b.pe g.ru g.calm ok.2.1 (g.gl h2).1 ok.1 (pdn_a a1) a2) (test_plain rfl _)
    · cases h
  | .call n S es, c, X, x, g, ok, h => by
    unfold E.mt at h
    split at h
    · obtain ⟨h1, h2⟩ := band h
      obtain ⟨h2, h3⟩ := band h2
      obtain rfl := of_decide_eq_true h1
      unfold E.ok at ok
      obtain ⟨a1, a2⟩ := Es.snd es _ g ok.2 h3
      unfold E.wpT; exact pdt_truth (call_case ok.1 g h2 h3 a1 a2) (test_plain rfl _)
    · cases h
  | .cmpO neg C S a b, c, X, x, g, ok, h => by
    unfold E.mt at h
    split at h
    · obtain ⟨h1, j2⟩ := band h
      obtain ⟨h2, j3⟩ := band j2
      obtain ⟨h3, h4⟩ := band j3
      clear h j2 j3
      obtain rfl := of_decide_eq_true h1
      unfold E.ok at ok
      unfold E.wpT
      cases neg with
      | false => exact pdt_cmp (od_eqO ok.1) (E.snd a _ g ok.2.2.1 h2) (E.snd b _ g ok.2.2.2 h3) (bnot h4)
      | true => exact pdt_cmp (od_neO ok.1 (ok.2.1 rfl)) (E.snd a _ g ok.2.2.1 h2) (E.snd b _ g ok.2.2.2 h3) (bnot h4)
    · cases h
  | .inX P w neg a b, c, X, x, g, ok, h => by
    unfold E.mt at h
    split at h
    · obtain ⟨h1, j2⟩ := band h
      obtain ⟨h2, j3⟩ := band j2
      obtain ⟨h3, h4⟩ := band j3
      clear h j2 j3
      obtain rfl := of_decide_eq_true h1
      unfold E.ok at ok
      unfold E.wpT
      exact pdt_cmp (od_inX P w ok.1 ok.2.1 neg g.ru) (E.snd a _ g ok.2.2.1 h2) (E.snd b _ g ok.2.2.2 h3) (bnot h4)
    · cases h
  | .meth C m S a es, c, X, x, g, ok, h => by
    unfold E.mt at h
    split at h
    · obtain ⟨h1, h2⟩ := band h
      obtain ⟨h2, h3⟩ := band h2
      obtain ⟨h3, h4⟩ := band h3
      obtain ⟨h4, h5⟩ := band h4
      obtain ⟨h5, h6⟩ := band h5
      obtain rfl := of_decide_eq_true h1
      unfold E.ok at ok
      unfold E.wpT
      exact pdt_truth (meth_case ok.1 (E.snd a _ g ok.2.1 h2) (Es.snd es _ g ok.2.2 h3) h3 h4 (of_decide_eq_true h5) h6) (test_plain rfl _)
    · cases h
  | .dnew _, c, X, x, g, ok, h => by unfold E.wpT; exact never_t
  | .getX _ _ _ _, c, X, x, g, ok, h => by unfold E.wpT; exact never_t
  | .sortX _, c, X, x, g, ok, h => by unfold E.wpT; exact never_t
  | .big, c, X, x, g, ok, h => by unfold E.wpT; exact never_t
  | .lenO _ _ _, c, X, x, g, ok, h => by unfold E.wpT; exact never_t
  | .dc _ _ _ _ _ _ _, c, X, x, g, ok, h => by unfold E.wpT; exact never_t
  | .int _, c, X, x, g, ok, h => by unfold E.wpT; exact never_t
  | .str _, c, X, x, g, ok, h => by unfold E.wpT; exact never_t
  | .non, c, X, x, g, ok, h => by unfold E.wpT; exact never_t
  | .glob _ _, c, X, x, g, ok, h => by unfold E.wpT; exact never_t
  | .tup _, c, X, x, g, ok, h => by unfold E.wpT; exact never_t
  | .lst _, c, X, x, g, ok, h => by unfold E.wpT; exact never_t
  | .bin _ _ _, c, X, x, g, ok, h => by unfold E.wpT; exact never_t
  | .neg _, c, X, x, g, ok, h => by unfold E.wpT; exact never_t
  | .ife _ _ _, c, X, x, g, ok, h => by unfold E.wpT; exact never_t
  | .slc _ _ _, c, X, x, g, ok, h => by unfold E.wpT; exact never_t
  | .bm _ _ _, c, X, x, g, ok, h => by unfold E.wpT; exact never_t
  | .callK _ _ _ _ _, c, X, x, g, ok, h => by unfold E.wpT; exact never_t
  | .lc _ _ _ _ _, c, X, x, g, ok, h => by unfold E.wpT; exact never_t
theorem Es.sndT : ∀ (e : Es) {c : Sc} {X : Cx} (x : List Expr) {o : BoolOp} {pos : Pos}, Gd c X → e.ok (co X) → e.mt c x = true → PW X (.BoolOp o x pos) (tDT X.K (e.wpT o))
  | .nil, c, X, x, o, pos, g, ok, h => by unfold Es.wpT; exact never_w
  | .cons e .nil, c, X, x, o, pos, g, ok, h => by
    unfold Es.mt at h
    split at h
    · obtain ⟨h1, h2⟩ := band h
      obtain ⟨k2, k3⟩ := band h2
      clear h2 h
      unfold Es.ok at ok
      unfold Es.mt at k3
      split at k3
      · unfold Es.wpT
        cases o with
        | And => exact pw_and1 (E.sndT e _ g ok.1 k2)
        | Or => exact pw_or1 (E.sndT e _ g ok.1 k2)
      · cases k3
    · cases h
  | .cons e (.cons e2 es), c, X, x, o, pos, g, ok, h => by
    unfold Es.mt at h
    split at h
    · obtain ⟨h1, h2⟩ := band h
      obtain ⟨k2, k3⟩ := band h2
      clear h2 h
      unfold Es.ok at ok
      have ih := Es.sndT (.cons e2 es) _ (o := o) (pos := pos) g ok.2 k3
      unfold Es.mt at k3
      split at k3
      · cases o with
        | And => unfold Es.wpT; exact pdw_and (E.sndT e _ g ok.1 k2) ih
        | Or => unfold Es.wpT; exact pdw_or (E.sndT e _ g ok.1 k2) ih
      · cases k3
    · cases h
theorem Es.snd : ∀ (e : Es) {c : Sc} {X : Cx} (x : List Expr), Gd c X → e.ok (co X) → e.mt c x = true → PA X x (tDN X.K e.len e.wp) ∧ x.all notStar = true
  | .nil, c, X, x, g, ok, h => by
    unfold Es.mt at h
    split at h
    · unfold Es.wp; exact ⟨pdn_nil, rfl⟩
    · cases h
  | .cons e es, c, X, x, g, ok, h => by
    unfold Es.mt at h
    split at h
    · obtain ⟨h1, h2⟩ := band h
      obtain ⟨h2, h3⟩ := band h2
      unfold Es.ok at ok
      obtain ⟨a1, a2⟩ := Es.snd es _ g ok.2 h3
      unfold Es.wp Es.len
      exact ⟨pdn_cons (E.snd e _ g ok.1 h2) a1 (star_of h1 _ _), by rw [List.all_cons, h1, a2]; rfl⟩
    · cases h
theorem Es.sndK : ∀ (e : Es) {c : Sc} {X : Cx} (x : List Keyword), Gd c X → e.ok (co X) → e.mtK c x = true → PK X x (tDN X.K e.len e.wp)
  | .nil, c, X, x, g, ok, h => by
    unfold Es.mtK at h
    split at h
    · unfold Es.wp; exact pdk_nil
    · cases h
  | .cons e es, c, X, x, g, ok, h => by
    unfold Es.mtK at h
    split at h
    · obtain ⟨h2, h3⟩ := band h
      unfold Es.ok at ok
      unfold Es.wp Es.len
      exact pdk_cons (E.snd e _ g ok.1 h2) (Es.sndK es _ g ok.2 h3)
    · cases h
theorem Es.sndV : ∀ (e : Es) {c : Sc} {X : Cx} (x : List Expr) {o : BoolOp} {pos : Pos}, Gd c X → e.ok (co X) → e.mt c x = true → PE X (.BoolOp o x pos) (tD X.K (e.wpV o))
  | .nil, c, X, x, o, pos, g, ok, h => by unfold Es.wpV; exact never_e
  | .cons e .nil, c, X, x, o, pos, g, ok, h => by
    unfold Es.mt at h
    split at h
    · obtain ⟨h1, h2⟩ := band h
      obtain ⟨k2, k3⟩ := band h2
      clear h2 h
      unfold Es.ok at ok
      unfold Es.mt at k3
      split at k3
      · unfold Es.wpV
        exact pe_one (E.snd e _ g ok.1 k2)
      · cases k3
    · cases h
  | .cons e (.cons e2 es), c, X, x, o, pos, g, ok, h => by
    unfold Es.mt at h
    split at h
    · obtain ⟨h1, h2⟩ := band h
      obtain ⟨k2, k3⟩ := band h2
      clear h2 h
      unfold Es.ok at ok
      have ih := Es.sndV (.cons e2 es) _ (o := o) (pos := pos) g ok.2 k3
      unfold Es.mt at k3
      split at k3
      · cases o with
        | And => unfold Es.wpV; exact pd_and (E.snd e _ g ok.1 k2) ih
        | Or => unfold Es.wpV; exact pd_or (E.snd e _ g ok.1 k2) ih
      · cases k3
    · cases h
theorem Oe.snd : ∀ (e : Oe) {c : Sc} {X : Cx} (x : Option Expr), Gd c X → e.ok (co X) → e.mt c x = true → PO X x (tDO X.K e.wpO)
  | .none, c, X, x, g, ok, h => by
    unfold Oe.mt at h
    split at h
    · unfold Oe.wpO; exact pdo_none
    · cases h
  | .some e, c, X, x, g, ok, h => by
    unfold Oe.mt at h
    split at h
    · unfold Oe.ok at ok
      unfold Oe.wpO; exact pdo_some (E.snd e _ g ok h)
    · cases h
theorem Oe.sndI : ∀ (e : Oe) {c : Sc} {X : Cx} (x : List Expr), Gd c X → e.ok (co X) → e.mtI c x = true → PTs X x (tDT X.K e.wpT)
  | .none, c, X, x, g, ok, h => by
    unfold Oe.mtI at h
    split at h
    · unfold Oe.wpT
      refine ⟨fun pins s σ H Q I hq => pts_nil.run pins s σ H Q I ?_⟩
      obtain ⟨ρ, M, F, Q0, s0, q, gg⟩ := hq
      exact gg _ M H q (.refl _) s0.fr.frm s0.rm
    · cases h
  | .some e, c, X, x, g, ok, h => by
    unfold Oe.mtI at h
    split at h
    · unfold Oe.ok at ok
      unfold Oe.wpT; exact pts_one (E.sndT e _ g ok h)
    · cases h
theorem Wk.snd : ∀ (w : Wk) {c : Sc} {X : Cx} (tg x : Expr), Gd c X → w.ok (co X) → w.mt c tg x = true → PI X tg x (iD X.K w.wp)
  | .seq e, c, X, tg, x, g, ok, h => by
    unfold Wk.mt at h; unfold Wk.ok at ok; unfold Wk.wp
    exact pid_seq (E.snd e _ g ok h)
  | .str e, c, X, tg, x, g, ok, h => by
    unfold Wk.mt at h; unfold Wk.ok at ok; unfold Wk.wp
    exact pid_str (E.snd e _ g ok h)
  | .enm e, c, X, tg, x, g, ok, h => by
    unfold Wk.mt at h
    split at h
    · obtain ⟨h0, h⟩ := band h
      obtain ⟨h1, h2⟩ := band h
      obtain ⟨h2, h3⟩ := band h2
      obtain ⟨h3, h4⟩ := band h3
      obtain rfl := of_decide_eq_true h1
      unfold Wk.ok at ok; unfold Wk.wp
      cases tg <;> first | (cases h0; done) | skip
      exact pid_en (E.snd e _ g ok.2 h4) (g.gl h2).1 ok.1 (star_of h3 _ _)
    · cases h
  | .r1 e, c, X, tg, x, g, ok, h => by
    unfold Wk.mt at h
    split at h
    · obtain ⟨h1, h2⟩ := band h
      obtain ⟨h2, h3⟩ := band h2
      obtain ⟨h3, h4⟩ := band h3
      obtain rfl := of_decide_eq_true h1
      unfold Wk.ok at ok; unfold Wk.wp
      exact pid_r1 (E.snd e _ g ok.2 h4) (g.gl h2).1 ok.1 (star_of h3 _ _)
    · cases h
  | .r2 a b, c, X, tg, x, g, ok, h => by
    unfold Wk.mt at h
    split at h
    · obtain ⟨h1, h2⟩ := band h
      obtain ⟨h2, h3⟩ := band h2
      obtain ⟨h3, h4⟩ := band h3
      obtain ⟨h4, h5⟩ := band h4
      obtain ⟨h5, h6⟩ := band h5
      obtain rfl := of_decide_eq_true h1
      unfold Wk.ok at ok; unfold Wk.wp
      exact pid_r2 (E.snd a _ g ok.2.1 h4) (E.snd b _ g ok.2.2 h6) (g.gl h2).1 ok.1 (by rw [star_of h3, star_of h5]; rfl) (star_of h5 _ _)
    · cases h
  | .zip a b, c, X, tg, x, g, ok, h => by
    unfold Wk.mt at h
    split at h
    · obtain ⟨h0, h⟩ := band h
      obtain ⟨h1, h2⟩ := band h
      obtain ⟨h2, h3⟩ := band h2
      obtain ⟨h3, h4⟩ := band h3
      obtain ⟨h4, h5⟩ := band h4
      obtain ⟨h5, h6⟩ := band h5
      obtain rfl := of_decide_eq_true h1
      unfold Wk.ok at ok; unfold Wk.wp
      cases tg <;> first | (cases h0; done) | skip
      exact pid_zip (E.snd a _ g ok.2.1 h4) (E.snd b _ g ok.2.2 h6) (g.gl h2).1 ok.1 (star_of h3 _ _) (star_of h5 _ _)
    · cases h
end
end DL

set_option Elab.async false
set_option linter.all false
set_option maxRecDepth 100000
set_option maxHeartbeats 8000000
/-! DLk: statements as data; a def by its body. -/
namespace DL
open PySem L2
def bkS (sc : Scope) : ScopeKind := if sc.kind.isAnnotationScope then .function else sc.kind
def spB (ts vs : List Expr) (sc : Scope) : Option (Option (List Str)) :=
  if (!(ts.length == 2 || ts.length == 3) || vs.length != ts.length || bkS sc != .function) = true then some none else
  if (vs.any fun | .Starred .. => true | _ => false) = true then some none else
  let line := (ts.head?.map (·.pos.line)).getD 0
  let names := ts.filterMap fun
    | .Name id pos => if (sc.names.lookup id == some .local && pos.line == line) = true then some id else none
    | _ => none
  if (names.length != ts.length || names.eraseDups.length != names.length) = true then some none else
  if (vs.all (foldedForSure 8)) = true then some none else
  if (vs.all (constantsAlone 8)) = true then none else some (some names)
theorem sp_ok {ts vs : List Expr} {k k2 : Nat} {p p2 : Pos} {env : Env} {r : Option (List Str)} (h : spB ts vs env.scope = some r) : swappedStores [.Tuple ts k p] (.Tuple vs k2 p2) env = pure r := by
  unfold spB at h
  unfold swappedStores
  show (if (!(ts.length == 2 || ts.length == 3) || vs.length != ts.length || env.blockKind != .function) = true then _ else _) = _
  by_cases h1 : (!(ts.length == 2 || ts.length == 3) || vs.length != ts.length || bkS env.scope != .function) = true
  · rw [if_pos h1] at h
    cases h
    exact if_pos h1
  · rw [if_neg h1] at h
    refine (if_neg h1).trans ?_
    split at h
    · rename_i h2
      cases h
      exact if_pos h2
    · rename_i h2
      refine (if_neg h2).trans ?_
      dsimp only at h ⊢
      split at h
      · rename_i h3
        cases h
        exact if_pos h3
      · rename_i h3
        refine (if_neg h3).trans ?_
        split at h
        · rename_i h4
          cases h
          exact if_pos h4
        · rename_i h4
          refine (if_neg h4).trans ?_
          split at h
          · cases h
          · rename_i h5
            cases h
            exact if_neg h5

def swN (c : Sc) (scope : Scope) (t : Str) (p pos : Pos) : Bool := bkS c.sc == .function && c.sc.names.lookup t == some .local && p.line == pos.line && !(scope.names.any fun (n, k) => n == t && (k == .local || k == .cell))
def swOk (c : Sc) (tg v : Expr) : Bool := match v with
  | .ListComp _ _ scope pos => (match tg with | .Name t p => !swN c scope t p pos | _ => true)
  | .SetComp _ _ scope pos => (match tg with | .Name t p => !swN c scope t p pos | _ => true)
  | .DictComp _ _ _ scope pos => (match tg with | .Name t p => !swN c scope t p pos | _ => true)
  | _ => true
def spOk (c : Sc) (tg v : Expr) : Bool := match tg, v with
  | .Tuple ts _ _, .Tuple vs _ _ => decide (spB ts vs c.sc = some none)
  | .List _ _, .Tuple _ _ _ => false
  | _, _ => true
theorem sw_l {c : Sc} {X : Cx} (g : Gd c X) {scope : Scope} {y : Str} {py pos : Pos} {el : Expr} {gs : List Comprehension} {l : Nat} : swapsWith (.ListComp el gs scope pos) (some (.Name y py)) l X.env = pure (swN c scope y py pos) := by unfold swN; rw [← g.sc]; rfl
theorem sw_s {c : Sc} {X : Cx} (g : Gd c X) {scope : Scope} {y : Str} {py pos : Pos} {el : Expr} {gs : List Comprehension} {l : Nat} : swapsWith (.SetComp el gs scope pos) (some (.Name y py)) l X.env = pure (swN c scope y py pos) := by unfold swN; rw [← g.sc]; rfl
theorem sw_d {c : Sc} {X : Cx} (g : Gd c X) {scope : Scope} {y : Str} {py pos : Pos} {el el' : Expr} {gs : List Comprehension} {l : Nat} : swapsWith (.DictComp el el' gs scope pos) (some (.Name y py)) l X.env = pure (swN c scope y py pos) := by unfold swN; rw [← g.sc]; rfl
theorem swOk_ok {c : Sc} {X : Cx} (g : Gd c X) {tg v : Expr} (h : swOk c tg v = true) (l : Nat) : swapsWithSole [tg] v l X.env = pure false := by
  show swapsWith v (some tg) l X.env = pure false
  cases v with
  | ListComp a b scope pos =>
    cases tg with
    | Name t p => rw [sw_l g, bnot h]
    | _ => rfl
  | SetComp a b scope pos =>
    cases tg with
    | Name t p => rw [sw_s g, bnot h]
    | _ => rfl
  | DictComp a a' b scope pos =>
    cases tg with
    | Name t p => rw [sw_d g, bnot h]
    | _ => rfl
  | _ => rfl
theorem sw_lc {c : Sc} {X : Cx} (g : Gd c X) {scope : Scope} {y : Str} {py pos : Pos} (h : swN c scope y py pos = true) {el : Expr} {gs : List Comprehension} {l : Nat} : swapsWith (.ListComp el gs scope pos) (some (.Name y py)) l X.env = pure true := by
  have e : swapsWith (.ListComp el gs scope pos) (some (.Name y py)) l X.env = pure (swN c scope y py pos) := by unfold swN; rw [← g.sc]; rfl
  rw [e, h]
theorem spOk_ok {c : Sc} {X : Cx} (g : Gd c X) {tg v : Expr} (h : spOk c tg v = true) : swappedStores [tg] v X.env = pure none := by
  cases v with
  | Tuple vs k p =>
    cases tg with
    | Tuple ts k2 p2 => exact sp_ok (by rw [g.sc]; exact of_decide_eq_true h)
    | List => cases h
    | _ => rfl
  | _ => cases tg <;> rfl
mutual
inductive S where
  | ret (e : E) | retN | expr (e : E)
  | asg (g : Tg) (e : E)
  | setLc (i : Nat) (own : List (Str × Nat)) (g : Tg) (w : Wk) (t : Oe) (elt : E)
  | par (i j : Nat) (es : Es)
  | par3 (i j l : Nat) (es : Es)
  | fld (o : E) (C : Addr) (f : Str) (v : E)
  | setI (o i v : E)
  | setK (kd : DcK) (o i v : E)
  | ife (t : E) (a b : Ss)
  | for_ (g : Tg) (w : Wk) (b : Ss)
  | while_ (t : E) (b : Ss)
  | never | pass | cont
inductive Ss where
  | nil
  | cons (s : S) (r : Ss)
end
mutual
def S.wp : S → WS
  | .ret e => wRet e.wp
  | .retN => wRetN
  | .expr e => wDrop e.wp
  | .asg g e => wAsg e.wp g
  | .setLc i own g w t elt => wAsg (wLc w.wp g t.wpT elt.wp (own.map (·.2))) (.name i)
  | .par i j es => wPar i j es.wp
  | .par3 i j l es => wPar3 i j l es.wp
  | .fld o C f v => wFldS C f o.wp v.wp
  | .setI o i v => wSetI o.wp i.wp v.wp
  | .setK kd o i v => wSetK kd o.wp i.wp v.wp
  | .ife t a b => wIfS t.wpT a.wp b.wp
  | .for_ g w b => wFor w.wp g b.wp
  | .while_ t b => wWhile t.wpT b.wp
  | .never => wNever
  | .pass => wNext
  | .cont => wCont
def Ss.wp : Ss → WS
  | .nil => wNext
  | .cons s r => wSeq s.wp r.wp
end
mutual
def S.mt (c : Sc) : S → Stmt → Bool
  | .ret e, x => match x with
    | .Return (some v) _ => e.mt c v
    | _ => false
  | .retN, x => match x with
    | .Return none _ => true
    | _ => false
  | .expr e, x => match x with
    | .Expr v _ => e.mt c v && !isComp v
    | _ => false
  | .asg g e, x => match x with
    | .Assign [tg] v _ => g.mt c tg && (e.mt c v && (notStar tg && (swOk c tg v && spOk c tg v)))
    | _ => false
  | .setLc i own g w t elt, x => match x with
    | .Assign [.Name y py] (.ListComp el [⟨tg, iter, ifs, as⟩] scope pos) _ => decide (c.N[i]? = some y) && (decide (c.sc.names.lookup y = some .local) && (swN c scope y py pos && (decide (as = 0) && (blkC c.N c.sc scope own && (notSet iter && (w.mt c tg iter && (g.mt (c.blk scope) tg && (t.mtI (c.blk scope) ifs && (elt.mt (c.blk scope) el && g.slots.all fun j => (own.map (·.2)).contains j)))))))))
    | _ => false
  | .par i j es, x => match x with
    | .Assign [.Tuple [.Name y py, .Name z pz] _ _] (.Tuple [a, b] _ _) _ => decide (c.N[i]? = some y) && (decide (c.N[j]? = some z) && (decide (i ≠ j) && (decide (c.sc.names.lookup y = some .local) && (decide (c.sc.names.lookup z = some .local) && (es.mt c [a, b] && decide (spB [.Name y py, .Name z pz] [a, b] c.sc = some (some [y, z])))))))
    | _ => false
  | .par3 i j l es, x => match x with
    | .Assign [.Tuple [.Name y py, .Name z pz, .Name u pu] _ _] (.Tuple [a, b, d] _ _) _ => decide (c.N[i]? = some y) && (decide (c.N[j]? = some z) && (decide (c.N[l]? = some u) && (decide (i ≠ j ∧ i ≠ l ∧ j ≠ l) && (decide (c.sc.names.lookup y = some .local) && (decide (c.sc.names.lookup z = some .local) && (decide (c.sc.names.lookup u = some .local) && (es.mt c [a, b, d] && decide (spB [.Name y py, .Name z pz, .Name u pu] [a, b, d] c.sc = some (some [y, z, u])))))))))
    | _ => false
  | .fld o _ f v, x => match x with
    | .Assign [.Attribute y g _] z _ => decide (f = g) && (o.mt c y && (v.mt c z))
    | _ => false
  | .setI o i v, x => match x with
    | .Assign [.Subscript y z _] u _ => o.mt c y && (i.mt c z && (v.mt c u && notSlice z))
    | _ => false
  | .setK _ o i v, x => match x with
    | .Assign [.Subscript y z _] u _ => o.mt c y && (i.mt c z && (v.mt c u && notSlice z))
    | _ => false
  | .ife t a b, x => match x with
    | .If y p q _ => t.mt c y && (a.mt c p && b.mt c q)
    | _ => false
  | .for_ g w b, x => match x with
    | .For tg iter body [] _ => g.mt c tg && (w.mt c tg iter && (b.mt c body && notSet iter))
    | _ => false
  | .while_ t b, x => match x with
    | .While y body [] _ => t.mt c y && b.mt c body
    | _ => false
  | .never, _ => true
  | .pass, x => match x with
    | .Pass _ => true
    | _ => false
  | .cont, x => match x with
    | .Continue _ => true
    | _ => false
def Ss.mt (c : Sc) : Ss → List Stmt → Bool
  | .nil, xs => match xs with
    | [] => true
    | _ => false
  | .cons s r, xs => match xs with
    | x :: xs => s.mt c x && r.mt c xs
    | [] => false
end
mutual
def S.ok (k : Co) : S → Prop
  | .ret e => e.ok k
  | .expr e => e.ok k
  | .asg _ e => e.ok k
  | .setLc _ _ _ w t elt => w.ok k ∧ t.ok k ∧ elt.ok k
  | .par _ _ es => es.ok k
  | .par3 _ _ _ es => es.ok k
  | .fld o C f v => Cf k.K C f ∧ o.ok k ∧ v.ok k
  | .setI o i v => o.ok k ∧ i.ok k ∧ v.ok k
  | .setK kd o i v => (match kd with | .k => True | .t P w => P = k.prog ∧ w = k.w) ∧ o.ok k ∧ i.ok k ∧ v.ok k
  | .ife t a b => t.ok k ∧ a.ok k ∧ b.ok k
  | .for_ _ w b => w.ok k ∧ b.ok k
  | .while_ t b => t.ok k ∧ b.ok k
  | _ => True
def Ss.ok (k : Co) : Ss → Prop
  | .nil => True
  | .cons s r => s.ok k ∧ r.ok k
end
theorem swap_attr {c : Sc} {X : Cx} {v o : Expr} {f : Str} {p : Pos} {l : Nat} : swapsWith v (some (.Attribute o f p)) l X.env = pure false := by cases v <;> rfl
theorem swap_sub {c : Sc} {X : Cx} {v o i : Expr} {p : Pos} {l : Nat} : swapsWithSole [.Subscript o i p] v l X.env = pure false := by cases v <;> rfl
theorem sp_sub {X : Cx} {v o i : Expr} {p : Pos} : swappedStores [.Subscript o i p] v X.env = pure none := by cases v <;> rfl
theorem asg_one {tg : Expr} (h : notStar tg = true) (env : Env) : (assignEach [tg] env).map (·.2) = [assign tg env] := by cases tg <;> first | rfl | cases h
mutual
theorem S.snd : ∀ (s : S) {c : Sc} {X : Cx} (x : Stmt), Gd c X → PassesOwn (model X.prog X.w) X.A X.env X.xe → s.ok (co X) → s.mt c x = true → PS X x (tDS X.K s.wp)
  | .ret e, c, X, x, g, hp, ok, h => by
    unfold S.mt at h
    split at h
    · unfold S.ok at ok; unfold S.wp; exact psd_ret (e.snd _ g ok h)
    · cases h
  | .retN, c, X, x, g, hp, ok, h => by
    unfold S.mt at h
    split at h
    · unfold S.wp; exact psd_retN
    · cases h
  | .expr e, c, X, x, g, hp, ok, h => by
    unfold S.mt at h
    split at h
    · obtain ⟨h1, h2⟩ := band h
      unfold S.ok at ok; unfold S.wp; exact psd_expr (e.snd _ g ok h1) (swaps_plain (bnot h2) _ _ _)
    · cases h
  | .asg gt e, c, X, x, g, hp, ok, h => by
    unfold S.mt at h
    split at h
    · obtain ⟨h1, h2⟩ := band h
      obtain ⟨h2, h3⟩ := band h2
      obtain ⟨h3, h4⟩ := band h3
      obtain ⟨h4, h5⟩ := band h4
      unfold S.ok at ok; unfold S.wp
      exact psd_asg (e.snd _ g ok h2) (gt.snd g _ h1) (swOk_ok g h4 _) (spOk_ok g h5) (asg_one h3 _)
    · cases h
  | .setLc i own gt w t elt, c, X, x, g, hp, ok, h => by
    unfold S.mt at h
    split at h
    · obtain ⟨a1, h⟩ := band h
      obtain ⟨a2, h⟩ := band h
      obtain ⟨a3, h⟩ := band h
      obtain ⟨h1, h2⟩ := band h
      obtain ⟨h2, h3⟩ := band h2
      obtain ⟨h3, h4⟩ := band h3
      obtain ⟨h4, h5⟩ := band h4
      obtain ⟨h5, h6⟩ := band h5
      obtain ⟨h6, h7⟩ := band h6
      obtain ⟨h7, h8⟩ := band h7
      obtain rfl := of_decide_eq_true h1
      unfold S.ok at ok; unfold S.wp
      refine psd_setLc g.calm g.nd (by rw [g.n]; exact of_decide_eq_true a1) (by rw [g.sc]; exact of_decide_eq_true a2) (sw_lc g a3) (Wk.snd w _ _ g ok.1 h4) (blkOk_by (by rw [g.n, g.sc]; exact h2)) (fun s H C cl fp => Tg.snd (g.blk) gt _ h5) (fun s H C cl fp => Oe.sndI t _ (g.blk (s := s) (H := H) (cl := cl) (C := C) (fp := fp)) ok.2.1 h6) (fun s H C cl fp => E.snd elt _ (g.blk (s := s) (H := H) (cl := cl) (C := C) (fp := fp)) ok.2.2 h7) (fun v => set_plain h3 _ v) ?_
      intro j hj
      have := List.all_eq_true.mp h8 j hj
      simpa using this
    · cases h
  | .par i j es, c, X, x, g, hp, ok, h => by
    unfold S.mt at h
    split at h
    · obtain ⟨h1, h2⟩ := band h
      obtain ⟨h2, h3⟩ := band h2
      obtain ⟨h3, h4⟩ := band h3
      obtain ⟨h4, h5⟩ := band h4
      obtain ⟨h5, h6⟩ := band h5
      obtain ⟨h6, h7⟩ := band h6
      unfold S.ok at ok; unfold S.wp
      exact psd_par (fun t ht => ps_par g.calm g.nd (by rw [g.n]; exact of_decide_eq_true h1) (by rw [g.n]; exact of_decide_eq_true h2) (of_decide_eq_true h3) (by rw [g.sc]; exact of_decide_eq_true h4) (by rw [g.sc]; exact of_decide_eq_true h5) ht (sp_ok (by rw [g.sc]; exact of_decide_eq_true h7))) (pdn_a (es.snd _ g ok h6).1)
    · cases h
  | .par3 i j l es, c, X, x, g, hp, ok, h => by
    unfold S.mt at h
    split at h
    · obtain ⟨h1, h2⟩ := band h
      obtain ⟨h2, h3⟩ := band h2
      obtain ⟨h3, h4⟩ := band h3
      obtain ⟨h4, h5⟩ := band h4
      obtain ⟨h5, h6⟩ := band h5
      obtain ⟨h6, h7⟩ := band h6
      obtain ⟨h7, h8⟩ := band h7
      obtain ⟨h8, h9⟩ := band h8
      have hd := of_decide_eq_true h4
      unfold S.ok at ok; unfold S.wp
      exact psd_par3 (fun t ht => ps_par3 g.calm g.nd (by rw [g.n]; exact of_decide_eq_true h1) (by rw [g.n]; exact of_decide_eq_true h2) (by rw [g.n]; exact of_decide_eq_true h3) hd.1 hd.2.1 hd.2.2 (by rw [g.sc]; exact of_decide_eq_true h5) (by rw [g.sc]; exact of_decide_eq_true h6) (by rw [g.sc]; exact of_decide_eq_true h7) ht (sp_ok (by rw [g.sc]; exact of_decide_eq_true h9))) (pdn_a (es.snd _ g ok h8).1)
    · cases h
  | .fld o C f v, c, X, x, g, hp, ok, h => by
    unfold S.mt at h
    split at h
    · obtain ⟨h1, h2⟩ := band h
      obtain ⟨h2, h3⟩ := band h2
      obtain rfl := of_decide_eq_true h1
      unfold S.ok at ok; unfold S.wp
      exact psd_fld ok.1 (o.snd _ g ok.2.1 h2) (v.snd _ g ok.2.2 h3) (swap_attr (c := c))
    · cases h
  | .setI o i v, c, X, x, g, hp, ok, h => by
    unfold S.mt at h
    split at h
    · obtain ⟨h1, h2⟩ := band h
      obtain ⟨h2, h3⟩ := band h2
      obtain ⟨h3, h4⟩ := band h3
      unfold S.ok at ok; unfold S.wp
      exact psd_setI (o.snd _ g ok.1 h1) (i.snd _ g ok.2.1 h2) (v.snd _ g ok.2.2 h3) (swap_sub (c := c)) sp_sub h4
    · cases h
  | .setK kd o i v, c, X, x, g, hp, ok, h => by
    unfold S.mt at h
    split at h
    · obtain ⟨h1, h2⟩ := band h
      obtain ⟨h2, h3⟩ := band h2
      obtain ⟨h3, h4⟩ := band h3
      unfold S.ok at ok; unfold S.wp
      exact psd_setK kd (by cases kd <;> exact ok.1) g.ru (o.snd _ g ok.2.1 h1) (i.snd _ g ok.2.2.1 h2) (v.snd _ g ok.2.2.2 h3) (swap_sub (c := c)) sp_sub h4
    · cases h
  | .ife t a b, c, X, x, g, hp, ok, h => by
    unfold S.mt at h
    split at h
    · obtain ⟨h1, h2⟩ := band h
      obtain ⟨h2, h3⟩ := band h2
      unfold S.ok at ok; unfold S.wp
      exact psd_if (t.sndT _ g ok.1 h1) (Ss.snd a _ g hp ok.2.1 h2) (Ss.snd b _ g hp ok.2.2 h3)
    · cases h
  | .for_ gt w b, c, X, x, g, hp, ok, h => by
    unfold S.mt at h
    split at h
    · obtain ⟨h1, h2⟩ := band h
      obtain ⟨h2, h3⟩ := band h2
      obtain ⟨h3, h4⟩ := band h3
      unfold S.ok at ok; unfold S.wp
      exact psd_for hp g.calm (w.snd _ _ g ok.1 h2) (gt.snd g _ h1) (Ss.snd b _ g hp ok.2 h3) (fun v => set_plain h4 _ v)
    · cases h
  | .while_ t b, c, X, x, g, hp, ok, h => by
    unfold S.mt at h
    split at h
    · obtain ⟨h1, h2⟩ := band h
      unfold S.ok at ok; unfold S.wp
      exact psd_while hp (t.sndT _ g ok.1 h1) (Ss.snd b _ g hp ok.2 h2)
    · cases h
  | .never, c, X, x, g, hp, ok, h => by unfold S.wp; exact psd_never
  | .pass, c, X, x, g, hp, ok, h => by
    unfold S.mt at h
    split at h
    · unfold S.wp; exact psd_pass
    · cases h
  | .cont, c, X, x, g, hp, ok, h => by
    unfold S.mt at h
    split at h
    · unfold S.wp; exact psd_cont
    · cases h
theorem Ss.snd : ∀ (s : Ss) {c : Sc} {X : Cx} (x : List Stmt), Gd c X → PassesOwn (model X.prog X.w) X.A X.env X.xe → s.ok (co X) → s.mt c x = true → PSs X x (tDS X.K s.wp)
  | .nil, c, X, x, g, hp, ok, h => by
    unfold Ss.mt at h
    split at h
    · unfold Ss.wp; exact psd_nil
    · cases h
  | .cons s r, c, X, x, g, hp, ok, h => by
    unfold Ss.mt at h
    split at h
    · obtain ⟨h1, h2⟩ := band h
      unfold Ss.ok at ok; unfold Ss.wp
      exact psd_cons (S.snd s _ g hp ok.1 h1) (Ss.snd r _ g hp ok.2 h2)
    · cases h
end
/-! ### a def by its body -/
def startD (N : List Str) (ds : List D) : Ro := ds.map some ++ List.replicate (N.length - ds.length) none
theorem start_rep {K : PySem.W.Frag} {H : Hp} {N : List Str} {ds : List D} {vs : List V} (r : Reps K H ds vs) : RepS K H (L2.start N vs) (startD N ds) := by
  have el := r.length
  refine ⟨by unfold L2.start startD; simp [el], fun i d h => ?_⟩
  unfold startD at h
  by_cases hi : i < ds.length
  · rw [List.getElem?_append_left (by simpa using hi), List.getElem?_map] at h
    cases e : ds[i]? with
    | none => rw [e] at h; cases h
    | some d' =>
      rw [e] at h
      obtain rfl : d' = d := by simpa using h
      obtain ⟨v, e1, e2⟩ := r.get e
      refine ⟨v, ?_, e2⟩
      unfold L2.start
      rw [List.getElem?_append_left (by rw [List.length_map, ← el]; exact hi), List.getElem?_map, e1]
      rfl
  · rw [List.getElem?_append_right (by simpa using hi), List.getElem?_replicate] at h
    split at h <;> cases h
/-- what a body must do at its entry -/
def bodyEnds (Q : DQ) : DEnds := ⟨fun _ M => Q .non M, Q, fun _ _ => False, fun _ _ => False⟩
theorem fn_ok {P : Program} {w : World} {K : PySem.W.Frag} {mg : Str → Option Value} {base : Heap} {x qual : Str} {params : Arguments} {body : List Stmt} {scope : Scope} {dvs : List V} {kws : List (Str × V)} {f : Addr} {fd : FuncData} {N ps : List Str} {k : Nat} {S : Spec} (F : FunD K x qual params body scope dvs kws f fd)
    (sc : FnScope N ps scope) (b : Ss) (hl : ∀ ds M Q, S ds M Q → ds.length = ps.length) (hm : b.mt ⟨N, scope, fun _ => true⟩ body = true) (hok : ∀ A, Room k A → b.ok ⟨P, w, K, mg, base, A⟩)
    (hwp : ∀ H ds M Fr Q, RepM K H M → FrOk Fr H M → S ds M Q → ∃ M1 Q1, RepM K H M1 ∧ FrOk Fr H M1 ∧ b.wp (bodyEnds Q1) (startD N ds) M1 ∧ ∀ d M' H', Q1 d M' → RepM K H' M' → Frm Fr H H' M' → ∃ M2, RepM K H' M2 ∧ Frm Fr H H' M2 ∧ Q d M2) :
    FnOk P w K mg base CX0 (k + 1) f fd ps (spD K S) := by
  refine F.ok sc (fun vs H Q E h => rDL.len hl h) (fun cdv A outer s H vs Q E hr h => ?_)
  refine ⟨tDS K b.wp, PSs.nox (b.snd (c := ⟨N, scope, fun _ => true⟩) _ ⟨rfl, sc.nd, rfl, rfl, rfl, ?_⟩ PassesOwn.never (hok _ hr) hm), ?_⟩
  · have := hr.un
    show (A.deeper _).units + 65 < cLine
    omega
  · obtain ⟨ds, M, Fr, Q0, r, m, fr, h, g⟩ := h
    obtain ⟨M1, Q1, m1, fr1, hb, back⟩ := hwp H ds M Fr Q0 m fr h
    refine ⟨startD N ds, M1, Fr, _, ⟨start_rep r, m1, fr1⟩, hb, ?_⟩
    have fin : ∀ d M' v H', Q1 d M' → TupS K H H' → Frm Fr H H' M' → RepM K H' M' → Rep K H' d v → Q v H' := fun d M' v H' q t f r p => by
      obtain ⟨M2, m2, f2, q2⟩ := back d M' H' q r f
      exact g d M2 v H' q2 t f2 m2 p
    exact ⟨fun ρ' M' σ' H' q t f s => fin .non M' .non H' q t f s.rm rfl, fin, fun _ _ _ _ q _ _ _ => q.elim, fun _ _ _ _ q _ _ _ => q.elim⟩
/-- the plain case -/
theorem fn_ok' {P : Program} {w : World} {K : PySem.W.Frag} {mg : Str → Option Value} {base : Heap} {x qual : Str} {params : Arguments} {body : List Stmt} {scope : Scope} {dvs : List V} {kws : List (Str × V)} {f : Addr} {fd : FuncData} {N ps : List Str} {k : Nat} {S : Spec} (F : FunD K x qual params body scope dvs kws f fd)
    (sc : FnScope N ps scope) (b : Ss) (hl : ∀ ds M Q, S ds M Q → ds.length = ps.length) (hm : b.mt ⟨N, scope, fun _ => true⟩ body = true) (hok : ∀ A, Room k A → b.ok ⟨P, w, K, mg, base, A⟩)
    (hwp : ∀ ds M Q, S ds M Q → b.wp (bodyEnds Q) (startD N ds) M) : FnOk P w K mg base CX0 (k + 1) f fd ps (spD K S) :=
  fn_ok F sc b hl hm hok fun H ds M Fr Q m fr h => ⟨M, Q, m, fr, hwp ds M Q h, fun d M' H' q r f => ⟨M', r, f, q⟩⟩
end DL

set_option Elab.async false
set_option linter.all false
set_option maxRecDepth 100000
set_option maxHeartbeats 4000000
/-! DLm: kinds of things; readings of data made short. -/
namespace DL
open PySem L2
/-- the classes of the text -/
structure Cs where
  House : Addr
  Net : Addr
  P : Program
  w : World
def kindO : Option MO → Option String
  | some (.lst _) => some "list"
  | some (.dK _) => some "dict"
  | some (.dT _) => some "dict"
  | some .pot => some "list"
  | some (.scr _) => some "list"
  | _ => none
/-- the kind of a thing, where it is known -/
def kind (d : D) (M : Mp) : Option String := match d with
  | .non => some "NoneType"
  | .bl _ => some "bool"
  | .int _ => some "int"
  | .str _ => some "str"
  | .tup _ => some "tuple"
  | .ref a => kindO (M a)
  | .ty _ => none
def isaB (_ : Cs) (T : String) (d : D) (M : Mp) : Option Bool := (kind d M).map fun k => k == T || (k == "bool" && T == "int")
/-- the class of an instance -/
def insOf (d : D) (M : Mp) : Option Addr := match d with
  | .ref a => (match M a with
    | some (.ins C _) => some C
    | _ => none)
  | _ => none
def isaO (_ : Cs) (C : Addr) (d : D) (M : Mp) : Option Bool := match insOf d M with
  | some C' => if C' = C then some true else none
  | none => (kind d M).map fun _ => false
theorem insOf_eq {d : D} {M : Mp} {C : Addr} (h : insOf d M = some C) : ∃ a fs, d = .ref a ∧ M a = some (.ins C fs) := by
  unfold insOf at h
  split at h
  · split at h
    · rename_i e
      cases h
      exact ⟨_, _, rfl, e⟩
    · cases h
  · cases h
theorem kind_ty {K : PySem.W.Frag} {H : Hp} {M : Mp} {d : D} {v : V} {k : String} (m : RepM K H M) (r : Rep K H d v) (h : kind d M = some k) : TyX K H v (.type k) := by
  cases d with
  | non => cases r; cases h; exact .base .non
  | bl b => cases r; cases h; exact .base (.bl b)
  | int i => cases r; cases h; exact .base (.int i)
  | str x => cases r; cases h; exact .base (.str x)
  | ty n => cases h
  | tup ds =>
    cases h
    unfold Rep at r
    obtain ⟨a, vs, rfl, s, _⟩ := r
    rcases s with (s | ⟨o, s⟩) | ⟨o, its, n, s, c, _⟩
    · exact .base (.tup s)
    · exact .fTuple s
    · exact .kTuple s c
  | ref a =>
    cases r
    have h : kindO (M a) = some k := h
    cases e : M a with
    | none => rw [e] at h; cases h
    | some o =>
      rw [e] at h
      have q := m a o e
      cases o with
      | lst ds => obtain ⟨vs, q1, _⟩ := q; cases h; exact .base (.lst q1)
      | dK ds => obtain ⟨vs, q1, _⟩ := q; cases h; exact .base (.dK q1)
      | dT ds => obtain ⟨vs, q1, _⟩ := q; cases h; exact .base (.dT q1)
      | dX P w fs => cases h
      | ins C fs => cases h
      | pot => obtain ⟨g, n, q1, _⟩ := q; cases h; exact .base (.lst q1)
      | scr ns => obtain ⟨o, q1⟩ := q; cases h; exact .base (.frz q1)
def kindNames : List String := ["NoneType", "bool", "int", "str", "tuple", "list", "dict"]
theorem kind_mem {d : D} {M : Mp} {k : String} (h : kind d M = some k) : k ∈ kindNames := by
  unfold kind at h
  split at h
  · cases h; decide
  · cases h; decide
  · cases h; decide
  · cases h; decide
  · cases h; decide
  · unfold kindO at h; split at h <;> first | (cases h; decide) | cases h
  · cases h
theorem kits : ∀ k ∈ kindNames, ∀ t ∈ tyNames, kitB k t = some (k == t || (k == "bool" && t == "int")) := by decide +kernel
theorem isaB_ok {k : Co} {c : Cs} {T : String} (hi : k.mg "isinstance" = none) (ht : k.mg (Str.ofString T) = none) (hT : T ∈ tyNames) : Isa k (.bty T) (isaB c T) := by
  refine ⟨hi, ht, fun H M d v b m r h => ?_⟩
  unfold isaB at h
  cases e : kind d M with
  | none => rw [e] at h; cases h
  | some q =>
    rw [e] at h
    have h' : (q == T || (q == "bool" && T == "int")) = b := Option.some.inj h
    exact ⟨.type q, kind_ty m r e, kit_ty (by rw [← h']; exact kits q (kind_mem e) T hT)⟩
/-- what is asked of an own class -/
structure ClsF (K : PySem.W.Frag) (C : Addr) : Prop where
  cl : Cls K C
  ha : PySem.W.findIn K (.ref C) "__class__" = some (some (.builtin "object.__class__"))
  hn : PySem.W.specialIn K (.builtin "object.__class__") "__get__" = some (some (.builtin "getset_descriptor.__get__"))
  htk : PySem.W.takesIn K (.builtin "object.__class__") = some true
  hm : PySem.W.mroIn K C (.type "object") = some true
  ko : ∀ k ∈ kindNames, PySem.W.kitOne K (.type k) (.ref C) = some false
theorem isaO_ok {k : Co} {c : Cs} {x : Str} {C : Addr} (hi : k.mg "isinstance" = none) (hx : k.mg x = some (.ref C)) (hC : ClsF k.K C) : Isa k (.own x C) (isaO c C) := by
  refine ⟨hi, hx, fun H M d v b m r h => ?_⟩
  have plain : ∀ q, kind d M = some q → b = false → ∃ t, TyX k.K H v t ∧ PySem.W.kitOne k.K t (.ref C) = some b := fun q e hb => ⟨.type q, kind_ty m r e, by rw [hb]; exact hC.ko q (kind_mem e)⟩
  have fin : (kind d M).map (fun _ => false) = some b → ∃ t, TyX k.K H v t ∧ PySem.W.kitOne k.K t (.ref C) = some b := fun h => by
    cases e : kind d M with
    | none => rw [e] at h; cases h
    | some q => rw [e] at h; exact plain q e (Option.some.inj h).symm
  unfold isaO at h
  cases e : insOf d M with
  | none => rw [e] at h; exact fin h
  | some C' =>
    rw [e] at h
    obtain ⟨a, fs, rfl, e1⟩ := insOf_eq e
    obtain ⟨dx, vs, q1, _⟩ := m a _ e1
    cases r
    have h2 : (if C' = C then some true else none) = some b := h
    by_cases hc : C' = C
    · subst hc
      rw [if_pos rfl] at h2
      cases h2
      refine ⟨.ref C', .base (.ins q1 hC.cl hC.ha hC.hn hC.htk hC.hm), ?_⟩
      show PySem.W.kitOne k.K (.ref C') (.ref C') = some true
      unfold PySem.W.kitOne
      rw [if_pos (by simp)]
    · rw [if_neg hc] at h2; cases h2
end DL

set_option Elab.async false
set_option linter.all false
set_option maxRecDepth 100000
set_option maxHeartbeats 4000000
/-! DLn: lemmas for readings over data. -/
namespace DL
open PySem L2
/-- all that was there is there -/
def Keep (M M' : Mp) : Prop := ∀ a o, M a = some o → M' a = some o
theorem Keep.refl (M : Mp) : Keep M M := fun _ _ h => h
theorem Keep.trans {M M1 M2 : Mp} (a : Keep M M1) (b : Keep M1 M2) : Keep M M2 := fun x o h => b x o (a x o h)
theorem Keep.new {M : Mp} {p : Addr} {o : MO} (h : M p = none) : Keep M (up M p o) := fun a u e => by
  rw [up_ne]; exact e
  intro z; rw [z, h] at e; cases e
theorem Keep.put {M M1 : Mp} {p : Addr} {o : MO} (k : Keep M M1) (h : M p = none) : Keep M (up M1 p o) := fun a u e => by
  rw [up_ne]; exact k a u e
  intro z; rw [z, h] at e; cases e
theorem Keep.none {M M1 : Mp} {p : Addr} (k : Keep M M1) (h : M1 p = Option.none) : M p = Option.none := by
  cases e : M p with
  | none => rfl
  | some o => rw [k p o e] at h; cases h
/-- a thing whose kind is known -/
def kn (d : D) (M : Mp) : Prop := ∃ k, kind d M = some k
theorem kind_keep {d : D} {M M' : Mp} {k : String} (h : kind d M = some k) (q : Keep M M') : kind d M' = some k := by
  cases d <;> (try exact h)
  rename_i a
  have h : kindO (M a) = some k := h
  show kindO (M' a) = some k
  cases e : M a with
  | none => rw [e] at h; cases h
  | some o => rw [q a o e, ← e]; exact h
theorem kn.keep {d : D} {M M' : Mp} (h : kn d M) (q : Keep M M') : kn d M' := let ⟨k, e⟩ := h; ⟨k, kind_keep e q⟩
@[simp] theorem kn_int {i : Int} {M : Mp} : kn (.int i) M := ⟨_, rfl⟩
@[simp] theorem kn_tup {ds : List D} {M : Mp} : kn (.tup ds) M := ⟨_, rfl⟩
@[simp] theorem kn_str {x : Str} {M : Mp} : kn (.str x) M := ⟨_, rfl⟩
@[simp] theorem kn_bl {x : Bool} {M : Mp} : kn (.bl x) M := ⟨_, rfl⟩
@[simp] theorem kn_non {M : Mp} : kn .non M := ⟨_, rfl⟩
/-! ### targets -/
theorem asn_name {i : Nat} {d : D} {ρ : Ro} : (Tg.name i).asn d ρ = some (ρ.set i (some d)) := by unfold Tg.asn; rfl
theorem asn_tup {ts : Tgs} {ds : List D} {ρ : Ro} : (Tg.tup ts).asn (.tup ds) ρ = ts.asn ds ρ := by unfold Tg.asn; rfl
theorem asns_nil {ρ : Ro} : Tgs.nil.asn [] ρ = some ρ := by unfold Tgs.asn; rfl
theorem asns_name {i : Nat} {ts : Tgs} {d : D} {ds : List D} {ρ : Ro} : (Tgs.cons (.name i) ts).asn (d :: ds) ρ = ts.asn ds (ρ.set i (some d)) := by
  show (match (Tg.name i).asn d ρ with | some ρ' => ts.asn ds ρ' | none => none) = _
  rw [asn_name]
/-! ### loops by an invariant -/
theorem lcGo_inv {T : DIt} {g : Tg} {wt : WT} {we : WE} {ρ : Ro} {fin : List D → Mp → Prop} (J : List D → List D → Mp → Prop) (keep : ∀ done acc M, J done acc M → T.keep M) : ∀ (todo done acc : List D) (M : Mp), J done acc M →
    (∀ x ∈ todo, ∀ done acc M (k : List D → Mp → Prop), J done acc M → (∀ acc' M', J (done ++ [x]) acc' M' → k acc' M') → ∃ ρ1, g.asn x ρ = some ρ1 ∧ wt ρ1 M fun b M1 => if b = true then we ρ1 M1 fun d M2 => k (acc ++ [d]) M2 else k acc M1) →
    (∀ acc M, J (done ++ todo) acc M → fin acc M) → lcGo T g wt we ρ fin todo acc M
  | [], done, acc, M, h, _, hf => by
    unfold lcGo
    exact ⟨keep _ _ _ h, hf acc M (by rw [List.append_nil]; exact h)⟩
  | x :: xs, done, acc, M, h, hs, hf => by
    unfold lcGo
    refine ⟨keep _ _ _ h, hs x List.mem_cons_self done acc M (fun acc' M' => lcGo T g wt we ρ fin xs acc' M') h fun acc' M' h' => ?_⟩
    exact lcGo_inv J keep xs (done ++ [x]) acc' M' h' (fun y hy => hs y (List.mem_cons_of_mem _ hy)) fun acc M h => hf acc M (by rw [List.append_assoc] at h; exact h)
theorem forGo_inv {T : DIt} {g : Tg} {wb : WS} {D0 : DEnds} (J : List D → Ro → Mp → Prop) (keep : ∀ done ρ M, J done ρ M → T.keep M) : ∀ (todo done : List D) (ρ : Ro) (M : Mp), J done ρ M →
    (∀ x ∈ todo, ∀ done ρ M (k : Ro → Mp → Prop), J done ρ M → (∀ ρ' M', J (done ++ [x]) ρ' M' → k ρ' M') → ∃ ρ1, g.asn x ρ = some ρ1 ∧ wb { D0 with nx := k, ct := k, bk := D0.nx } ρ1 M) →
    (∀ ρ M, J (done ++ todo) ρ M → D0.nx ρ M) → forGo T g wb D0 todo ρ M
  | [], done, ρ, M, h, _, hf => by
    unfold forGo
    exact ⟨keep _ _ _ h, hf ρ M (by rw [List.append_nil]; exact h)⟩
  | x :: xs, done, ρ, M, h, hs, hf => by
    unfold forGo
    refine ⟨keep _ _ _ h, hs x List.mem_cons_self done ρ M (forGo T g wb D0 xs) h fun ρ' M' h' => ?_⟩
    exact forGo_inv J keep xs (done ++ [x]) ρ' M' h' (fun y hy => hs y (List.mem_cons_of_mem _ hy)) fun ρ M h => hf ρ M (by rw [List.append_assoc] at h; exact h)
/-- a comprehension whose element is a function of the item, the heap only grows -/
theorem lcGo_map {T : DIt} {g : Tg} {wt : WT} {we : WE} {ρ : Ro} {fin : List D → Mp → Prop} {M0 : Mp} (f : D → Option D) (keep : ∀ M, Keep M0 M → T.keep M) (todo : List D) (M : Mp) (hM : Keep M0 M)
    (hs : ∀ x ∈ todo, ∀ acc M (k : List D → Mp → Prop), Keep M0 M → (∀ M', Keep M0 M' → k (acc ++ (f x).toList) M') → ∃ ρ1, g.asn x ρ = some ρ1 ∧ wt ρ1 M fun b M1 => if b = true then we ρ1 M1 fun d M2 => k (acc ++ [d]) M2 else k acc M1)
    (hf : ∀ M, Keep M0 M → fin (todo.filterMap f) M) : lcGo T g wt we ρ fin todo [] M := by
  refine lcGo_inv (fun done acc M => acc = done.filterMap f ∧ Keep M0 M) (fun _ _ M h => keep M h.2) todo [] [] M ⟨rfl, hM⟩ (fun x hx done acc M k h hk => ?_) (fun acc M h => by rw [h.1]; exact hf M h.2)
  refine hs x hx acc M k h.2 fun M' hM' => hk _ M' ⟨?_, hM'⟩
  rw [h.1, List.filterMap_append]
  cases e : f x <;> simp [e]
theorem tru_bl {b k : Bool} {M : Mp} : truD (.bl b) M k = (k = b) := rfl
theorem tru_non {k : Bool} {M : Mp} : truD .non M k = (k = false) := rfl
theorem tru_int {i : Int} {k : Bool} {M : Mp} : truD (.int i) M k = (k = (i != 0)) := rfl
theorem tru_tup {ds : List D} {k : Bool} {M : Mp} : truD (.tup ds) M k = (k = !ds.isEmpty) := rfl
/-! ### operators on known data -/
theorem ord_int {o : Ord} {i j : Int} {M : Mp} {Q : DQ} (h : Q (.bl (match o with | .lt => decide (i < j) | .le => decide (i ≤ j) | .gt => decide (j < i) | .ge => decide (j ≤ i))) M) : ordD o (.int i) (.int j) M Q := .inl ⟨i, j, rfl, rfl, h⟩
theorem eq_plain {neg : Bool} {x y : D} {M : Mp} {Q : DQ} (hx : plain x = true) (hy : plain y = true) (sx : SeqAt.shaped (py x) = true) (sy : SeqAt.shaped (py y) = true) (h : Q (.bl (if neg then !PyData.eqv (py x) (py y) else PyData.eqv (py x) (py y))) M) : eqD neg x y M Q :=
  .inl ⟨py x, py y, .plain hx, .plain hy, sx, sy, h⟩
theorem eqv_int (i j : Int) : PyData.eqv (.int i) (.int j) = decide (i = j) := by
  simp only [PyData.eqv]
  by_cases h : i = j
  · simp [h]
  · simp [h]
theorem eq_int {neg : Bool} {i j : Int} {M : Mp} {Q : DQ} (h : Q (.bl (if neg then !decide (i = j) else decide (i = j))) M) : eqD neg (.int i) (.int j) M Q :=
  eq_plain rfl rfl rfl rfl (by simp only [py, eqv_int]; exact h)
theorem all_new {p : Addr} {bs : List Bool} {M : Mp} {Q : DQ} (h : Q (.bl (bs.all id)) (up M p (.lst (bs.map D.bl)))) : allS [.ref p] (up M p (.lst (bs.map D.bl))) Q := ⟨p, bs, rfl, up_same, h⟩
theorem any_new {p : Addr} {bs : List Bool} {M : Mp} {Q : DQ} (h : Q (.bl (bs.any id)) (up M p (.lst (bs.map D.bl)))) : anyS [.ref p] (up M p (.lst (bs.map D.bl))) Q := ⟨p, bs, rfl, up_same, h⟩
theorem tuple_new {p : Addr} {xs : List D} {M : Mp} {Q : DQ} (h : Q (.tup xs) (up M p (.lst xs))) : tupleS [.ref p] (up M p (.lst xs)) Q := ⟨_, xs, rfl, .inr ⟨p, rfl, up_same⟩, h⟩
theorem yes_if {ρ : Ro} {M : Mp} {A : Mp → Prop} {B : Mp → Prop} (h : A M) : wYes ρ M fun b M1 => if b = true then A M1 else B M1 := by
  show (if true = true then A M else B M)
  rw [if_pos rfl]
  exact h
/-- the loop part of all([..]): behind the walk T -/
theorem all_go {T : DIt} {g : Tg} {we : WE} {ρ : Ro} {M : Mp} {Q : DQ} (f : D → Bool) (keep : ∀ M2, Keep M M2 → T.keep M2)
    (hs : ∀ x ∈ T.items, ∀ M2 (k : D → Mp → Prop), Keep M M2 → (∀ M3, Keep M M3 → k (.bl (f x)) M3) → ∃ ρ1, g.asn x ρ = some ρ1 ∧ we ρ1 M2 k) (hq : ∀ M2, Keep M M2 → Q (.bl (T.items.all f)) M2) :
    lcGo T g wYes we ρ (fun acc M2 => ∀ p, M2 p = none → allS [.ref p] (up M2 p (.lst acc)) Q) T.items [] M := by
  refine lcGo_map (M0 := M) (fun x => some (.bl (f x))) keep T.items M (.refl M) (fun x hx acc M2 k h2 hk => ?_) fun M2 h2 p hp => ?_
  · obtain ⟨ρ1, e, w⟩ := hs x hx M2 (fun d M3 => k (acc ++ [d]) M3) h2 fun M3 h3 => hk M3 h3
    exact ⟨ρ1, e, yes_if w⟩
  · have e : T.items.filterMap (fun x => some (D.bl (f x))) = (T.items.map f).map D.bl := by rw [List.filterMap_eq_map', List.map_map]; rfl
    rw [e]
    refine all_new ?_
    rw [List.all_map]
    exact hq _ (h2.trans (.new hp))
theorem any_go {T : DIt} {g : Tg} {we : WE} {ρ : Ro} {M : Mp} {Q : DQ} (f : D → Bool) (keep : ∀ M2, Keep M M2 → T.keep M2)
    (hs : ∀ x ∈ T.items, ∀ M2 (k : D → Mp → Prop), Keep M M2 → (∀ M3, Keep M M3 → k (.bl (f x)) M3) → ∃ ρ1, g.asn x ρ = some ρ1 ∧ we ρ1 M2 k) (hq : ∀ M2, Keep M M2 → Q (.bl (T.items.any f)) M2) :
    lcGo T g wYes we ρ (fun acc M2 => ∀ p, M2 p = none → anyS [.ref p] (up M2 p (.lst acc)) Q) T.items [] M := by
  refine lcGo_map (M0 := M) (fun x => some (.bl (f x))) keep T.items M (.refl M) (fun x hx acc M2 k h2 hk => ?_) fun M2 h2 p hp => ?_
  · obtain ⟨ρ1, e, w⟩ := hs x hx M2 (fun d M3 => k (acc ++ [d]) M3) h2 fun M3 h3 => hk M3 h3
    exact ⟨ρ1, e, yes_if w⟩
  · have e : T.items.filterMap (fun x => some (D.bl (f x))) = (T.items.map f).map D.bl := by rw [List.filterMap_eq_map', List.map_map]; rfl
    rw [e]
    refine any_new ?_
    rw [List.any_map]
    exact hq _ (h2.trans (.new hp))
end DL

set_option Elab.async false
set_option linter.all false
set_option maxRecDepth 100000
set_option maxHeartbeats 4000000
/-! DLo: a def by its body, sizes told at its entry. -/
namespace DL
open PySem L2
mutual
/-- no tuple in it is too long -/
def sz : D → Prop
  | .tup ds => ds.length ≤ sizeLine ∧ szs ds
  | _ => True
def szs : List D → Prop
  | [] => True
  | d :: ds => sz d ∧ szs ds
end
theorem szs_mem : ∀ {ds : List D} {d : D}, szs ds → d ∈ ds → sz d
  | [], _, _, h => by cases h
  | e :: ds, d, h, hm => by
    unfold szs at h
    rcases List.mem_cons.mp hm with rfl | hm
    · exact h.1
    · exact szs_mem h.2 hm
theorem szs_of : ∀ {ds : List D}, (∀ d ∈ ds, sz d) → szs ds
  | [], _ => by unfold szs; trivial
  | e :: ds, h => by unfold szs; exact ⟨h e List.mem_cons_self, szs_of fun d hd => h d (List.mem_cons_of_mem _ hd)⟩
theorem sz_tup {ds : List D} (h : sz (.tup ds)) : ds.length ≤ sizeLine ∧ ∀ d ∈ ds, sz d := by
  unfold sz at h
  exact ⟨h.1, fun d hd => szs_mem h.2 hd⟩
theorem sz_tup_of {ds : List D} (h1 : ds.length ≤ sizeLine) (h2 : ∀ d ∈ ds, sz d) : sz (.tup ds) := by
  unfold sz
  exact ⟨h1, szs_of h2⟩
def szM (M : Mp) : Prop := ∀ a ds, M a = some (.lst ds) → ds.length ≤ sizeLine ∧ ∀ d ∈ ds, sz d
structure Sz (K : PySem.W.Frag) (H : Hp) : Prop where
  t : ∀ a xs, SqT K H a xs → xs.length ≤ sizeLine
  l : ∀ a xs, SqL K H a xs → xs.length ≤ sizeLine
mutual
theorem Rep.sz {K : PySem.W.Frag} {H : Hp} (z : Sz K H) : ∀ {d : D} {v : V}, Rep K H d v → DL.sz d
  | .non, _, _ => by unfold DL.sz; trivial
  | .bl _, _, _ => by unfold DL.sz; trivial
  | .int _, _, _ => by unfold DL.sz; trivial
  | .str _, _, _ => by unfold DL.sz; trivial
  | .ty _, _, _ => by unfold DL.sz; trivial
  | .ref _, _, _ => by unfold DL.sz; trivial
  | .tup ds, _, h => by
    unfold Rep at h
    obtain ⟨a, vs, _, s, r⟩ := h
    unfold DL.sz
    exact ⟨by rw [r.length]; exact z.t _ _ s, Reps.sz z r⟩
theorem Reps.sz {K : PySem.W.Frag} {H : Hp} (z : Sz K H) : ∀ {ds : List D} {vs : List V}, Reps K H ds vs → DL.szs ds
  | [], _, _ => by unfold DL.szs; trivial
  | d :: ds, _, h => by
    unfold Reps at h
    obtain ⟨v, r, _, h1, h2⟩ := h
    unfold DL.szs
    exact ⟨Rep.sz z h1, Reps.sz z h2⟩
end
theorem RepM.sz {K : PySem.W.Frag} {H : Hp} {M : Mp} (z : Sz K H) (m : RepM K H M) : szM M := fun a ds e => by
  obtain ⟨vs, h1, r⟩ := m a _ e
  exact ⟨by rw [r.length]; exact z.l a vs (.of h1), fun d hd => szs_mem (Reps.sz z r) hd⟩
theorem pss_sz {X : Cx} {st : List Stmt} {t : TS} (h : PSs X st t) : PSs X st (fun D σ H => Sz X.K H → t D σ H) := ⟨fun pins s σ H D I q => h.run pins s σ H D I (q ⟨fun a xs e => let ⟨_, _, _, z⟩ := I.tuple e; z, fun a xs e => let ⟨_, _, _, z⟩ := I.list e; z⟩)⟩
theorem fn_okG {P : Program} {w : World} {K : PySem.W.Frag} {mg : Str → Option Value} {base : Heap} {x qual : Str} {params : Arguments} {body : List Stmt} {scope : Scope} {dvs : List V} {kws : List (Str × V)} {f : Addr} {fd : FuncData} {N ps : List Str} {k : Nat} {S : Spec} (F : FunD K x qual params body scope dvs kws f fd)
    (sc : FnScope N ps scope) (b : Ss) (hl : ∀ ds M Q, S ds M Q → ds.length = ps.length) (hm : b.mt ⟨N, scope, fun _ => true⟩ body = true) (hok : ∀ A, Room k A → b.ok ⟨P, w, K, mg, base, A⟩)
    (hwp : ∀ H ds M Fr Q, szs ds → szM M → RepM K H M → FrOk Fr H M → S ds M Q → ∃ M1 Q1, RepM K H M1 ∧ FrOk Fr H M1 ∧ b.wp (bodyEnds Q1) (startD N ds) M1 ∧ ∀ d M' H', Q1 d M' → RepM K H' M' → Frm Fr H H' M' → ∃ M2, RepM K H' M2 ∧ Frm Fr H H' M2 ∧ Q d M2) :
    FnOk P w K mg base CX0 (k + 1) f fd ps (spD K S) := by
  refine F.ok sc (fun vs H Q E h => rDL.len hl h) (fun cdv A outer s H vs Q E hr h => ?_)
  refine ⟨_, PSs.nox (pss_sz (b.snd (c := ⟨N, scope, fun _ => true⟩) _ ⟨rfl, sc.nd, rfl, rfl, rfl, ?_⟩ PassesOwn.never (hok _ hr) hm)), fun z => ?_⟩
  · have := hr.un
    show (A.deeper _).units + 65 < cLine
    omega
  · obtain ⟨ds, M, Fr, Q0, r, m, fr, h, g⟩ := h
    obtain ⟨M1, Q1, m1, fr1, hb, back⟩ := hwp H ds M Fr Q0 (Reps.sz z r) (RepM.sz z m) m fr h
    refine ⟨startD N ds, M1, Fr, _, ⟨start_rep r, m1, fr1⟩, hb, ?_⟩
    have fin : ∀ d M' v H', Q1 d M' → TupS K H H' → Frm Fr H H' M' → RepM K H' M' → Rep K H' d v → Q v H' := fun d M' v H' q t f r p => by
      obtain ⟨M2, m2, f2, q2⟩ := back d M' H' q r f
      exact g d M2 v H' q2 t f2 m2 p
    exact ⟨fun ρ' M' σ' H' q t f s => fin .non M' .non H' q t f s.rm rfl, fin, fun _ _ _ _ q _ _ _ => q.elim, fun _ _ _ _ q _ _ _ => q.elim⟩
/-- the plain case -/
theorem fn_okP {P : Program} {w : World} {K : PySem.W.Frag} {mg : Str → Option Value} {base : Heap} {x qual : Str} {params : Arguments} {body : List Stmt} {scope : Scope} {dvs : List V} {kws : List (Str × V)} {f : Addr} {fd : FuncData} {N ps : List Str} {k : Nat} {S : Spec} (F : FunD K x qual params body scope dvs kws f fd)
    (sc : FnScope N ps scope) (b : Ss) (hl : ∀ ds M Q, S ds M Q → ds.length = ps.length) (hm : b.mt ⟨N, scope, fun _ => true⟩ body = true) (hok : ∀ A, Room k A → b.ok ⟨P, w, K, mg, base, A⟩)
    (hwp : ∀ ds M Q, szs ds → szM M → S ds M Q → b.wp (bodyEnds Q) (startD N ds) M) : FnOk P w K mg base CX0 (k + 1) f fd ps (spD K S) :=
  fn_okG F sc b hl hm hok fun H ds M Fr Q z zm m fr h => ⟨M, Q, m, fr, hwp ds M Q z zm h, fun d M' H' q r f => ⟨M', r, f, q⟩⟩
end DL

set_option Elab.async false
set_option linter.all false
set_option maxRecDepth 100000
set_option maxHeartbeats 8000000
/-! DLp: defs that know that no repr is under way; the law's end for them. -/
namespace DL
open PySem PySem.Spec PyProof.Rows L2
structure FnG (P : Program) (w : World) (K : PySem.W.Frag) (mg : Str → Option Value) (base : Heap) (k : Nat) (f : Addr) (fd : FuncData) (ps : List Str) (S : Spec) : Prop where
  len : ∀ ds M Q, S ds M Q → ds.length = ps.length
  run : ∀ (A : Around) (outer : List Env) (s : Shared) (H : Hp) (args : Args) (us : List Value) (vs : List V) (Q : VK) (E : XK), Room k A → A.guards = some [] → Env0 P w K mg base A outer s H → BindsTo s fd args (ps.zip us) → Vals vs us → rDL K S vs H Q →
    codeAny (model P w) A (.call (.ref f) args) (CR CX0 outer P w H s Q E) s
theorem fn_G {P : Program} {w : World} {K : PySem.W.Frag} {mg : Str → Option Value} {base : Heap} {x qual : Str} {params : Arguments} {body : List Stmt} {scope : Scope} {dvs : List V} {kws : List (Str × V)} {f : Addr} {fd : FuncData} {N ps : List Str} {k : Nat} {S : Spec} (F : FunD K x qual params body scope dvs kws f fd)
    (sc : FnScope N ps scope) (b : Ss) (hl : ∀ ds M Q, S ds M Q → ds.length = ps.length) (hm : b.mt ⟨N, scope, fun _ => true⟩ body = true) (hok : ∀ A, Room k A → A.guards = some [] → b.ok ⟨P, w, K, mg, base, A⟩)
    (hwp : ∀ ds M Q, szs ds → szM M → S ds M Q → b.wp (bodyEnds Q) (startD N ds) M) : FnG P w K mg base (k + 1) f fd ps S := by
  obtain ⟨oc, od, dV, kV, doc, pm, an, cdv, ct, osl, rfl, lk, hcd, _, _⟩ := F.ex
  refine ⟨hl, fun A outer s H args us vs Q E hr hg e0 hb r hsp => ?_⟩
  have hlen := rDL.len hl hsp
  have kIn : K.In s.heap := e0.mod.kin.keeps fun b o e => (e0.bs b o e).1
  have kinds : ∀ y ∈ ps.zip us, scope.names.lookup y.1 = some .local ∨ (scope.names.lookup y.1 = some .cell ∧ ((cellsFrom (s.heap.objs.size + 1) scope.names []).lookup y.1).isSome = true) := fun ⟨n, v⟩ hy =>
    (sc.par n (List.of_mem_zip hy).1).imp id fun q => ⟨q, PySem.W.cellsFrom_some _ _ _ (.inl q)⟩
  refine codeAny_call_function hr.depth (kIn _ _ lk) rfl sc.co sc.gen rfl (PySem.W.codeRec_of kIn hcd) (hb _ _ _ _ ?_)
  refine wpAny_newFunctionEnv_cells sc.kind kinds fun env he s1 x => ?_
  subst he
  refine ⟨(e0.mod.nolimit.keeps fun b o e => (e0.bs b o e).1).keeps x.toInCall.keep, codeAny_func ?_⟩
  have hr' := hr.deeper (envOfC qual scope s.heap.objs.size f cdv)
  have I : Inv (cxOf CX0 P w K mg base N qual scope f cdv A outer s H E) [] (L2.start N vs) H s1 := inv_start sc hr.hd e0 hlen r x
  have hb' := PSs.nox (pss_sz (b.snd (c := ⟨N, scope, fun _ => true⟩) (X := (cxOf CX0 P w K mg base N qual scope f cdv A outer s H E).nox) _ ⟨rfl, sc.nd, rfl, rfl, rfl, by have := hr'.un; show (A.deeper _).units + 65 < cLine; omega⟩ PassesOwn.never (hok _ hr' hg) hm))
  refine wpAny_mono (hb'.run [] s1 (L2.start N vs) H { nx := fun _ H' => Q .non H', rt := Q } I ?_) (fun fl s' hs => ?_) fun e s' hs => hs
  · intro z
    obtain ⟨ds, M, Fr, Q0, r, m, fr, h, g⟩ := hsp
    refine ⟨startD N ds, M, Fr, _, ⟨start_rep r, m, fr⟩, hwp ds M Q0 (Reps.sz z r) (RepM.sz z m) h, ?_⟩
    exact ⟨fun ρ' M' σ' H' q t f s => g .non M' .non H' q t f s.rm rfl, fun d M' v H' q t f r p => g d M' v H' q t f r p, fun _ _ _ _ q _ _ _ => q.elim, fun _ _ _ _ q _ _ _ => q.elim⟩
  · cases fl with
    | ret u =>
      obtain ⟨v, σ', H', J, rv, q⟩ := hs
      exact ⟨v, H', J.os, J.bare, J.base, J.hok, rv, q⟩
    | next =>
      obtain ⟨σ', H', J, q⟩ := hs
      exact ⟨V.non, H', J.os, J.bare, J.base, J.hok, rfl, q⟩
    | brk => obtain ⟨_, _, _, q⟩ := hs; exact q.elim
    | cont => obtain ⟨_, _, _, q⟩ := hs; exact q.elim
theorem Callee.fnG {c : Co} {x : Str} {n k : Nat} {S : Spec} {f : Addr} {fd : FuncData} {ps : List Str} (F : FnG c.prog c.w c.K c.mg c.base k f fd ps S) (hr : Room k c.A) (hg : c.A.guards = some []) (hm : c.mg x = some (.ref f)) (hk : PySem.W.keepIn c.K (.ref f) = true) (hb : Binds c.K fd ps []) : Callee c x n [] S := by
  refine ⟨f, hm, hk, ?_⟩
  rintro X rfl hc pins s σ H Q us ws vs zs I r rz hl hz h
  have e : zs = [] := List.eq_nil_of_length_eq_zero hz
  subst e
  cases rz
  rw [List.append_nil] at h
  have hl : us.length = ps.length := by rw [← r.length]; exact rDL.len F.len h
  have hb' := hb s us I.kIn (by rw [List.append_nil]; exact hl)
  rw [List.append_nil] at hb'
  refine wpAny_call (codeAny_mono (F.run X.A X.stack s H ⟨us, []⟩ us vs Q (fun _ _ _ => False) hr hg I.env0 hb' r h) fun r s' hq => ?_)
  cases r with
  | error e => exact pass0 pins σ H s e s' I hq
  | ok fl =>
    cases fl with
    | ret u => exact I.after hq
    | next => exact False.elim hq
    | brk => exact False.elim hq
    | cont => exact False.elim hq
/-! ### the law's end -/
theorem law_end {P : Program} {w : World} {K : PySem.W.Frag} {mg mb : Str → Option Value} {k : Nat} {fa a : Addr} {fd : FuncData} {x : Str} {S : Spec} {s₁ : Shared} {vs : List Value} {ns : List Int}
    (kin : K.In s₁.heap) (hns : s₁.heap.Ns mainGlobals mg) (hb : s₁.heap.Ns builtinsNs mb) (hbb : ∀ x : Str, x ≠ "__name__" → mb x = bootBuiltins x) (hlim : s₁.heap.NoLimit) (hdig : s₁.heap.NoDigits) (hg : s₁.gens = #[])
    (ha : s₁.heap.get? a = some { cls := .type "list", data := .seq vs.toArray }) (hi : IntsAre vs ns) (hl : ns.length ≤ sizeLine) (hr : Room k callerA) (hka : K.lookup a = none)
    (F : ∀ base : Heap, K.In base → base.Ns mainGlobals mg → base.NoDigits → FnG P w K mg base k fa fd [x] S) (hbind : ∀ (s : Shared) (u : Value), BindsTo s fd ⟨[u], []⟩ [(x, u)])
    (hS : ∀ (a : Addr) (M : Mp), M a = some (.scr ns) → S [.ref a] M fun d _ => d = .bl true) :
    codeAny (model P w) callerA (.call (.ref fa) ⟨[.ref a], []⟩) (fun r s' => r = .ok (.ret (.bool true)) ∧ OldK s₁.heap s'.heap ∧ s'.os = s₁.os ∧ AllBare s'.gens) s₁ := by
  have rv := vals_ints hi
  let o : Obj := { cls := .type "list", data := .seq vs.toArray }
  let H : Hp := fun b => if b = a then some (.frz o (.lst (ns.map V.int))) else none
  have Ha : H a = some (.frz o (.lst (ns.map V.int))) := if_pos rfl
  have Hn : ∀ b, b ≠ a → H b = none := fun b hb => if_neg hb
  have hok : HOk P w H s₁.heap := fun b u z => by
    by_cases e : b = a
    · subst e
      rw [Ha] at z
      cases z
      exact ⟨ha, by rw [List.length_map]; exact hl, vs, _, rv, ha⟩
    · rw [Hn b e] at z; cases z
  have at_ : ∀ {b : Addr} {m : Str → Option Value}, s₁.heap.Ns b m → (hidT s₁.heap H).Ns b m := fun {b m} ⟨o', es, ep, e, d, r⟩ => ⟨o', es, ep, hidT_get e (Hn b fun z => by
    subst z
    rw [ha] at e
    cases e
    cases d), d, r⟩
  have kb : K.In (hidT s₁.heap H) := fun b u e => hidT_get (kin b u e) (Hn b fun z => by subst z; rw [hka] at e; cases e)
  have mod : Mod K mg (hidT s₁.heap H) := ⟨kb, at_ hns, ⟨mb, at_ hb, hbb⟩, let ⟨mc, h1, h2⟩ := hlim; ⟨mc, at_ h1, h2⟩⟩
  have e0 : Env0 P w K mg (hidT s₁.heap H) callerA [] s₁ H := ⟨rfl, mod, fun b o e => of_hidT e, Nat.le_of_eq (hidT_size _ _), trivial, fun b hb => absurd (show b ∈ ([] : List Addr) from hb) (by simp), hok, .of_eq hg⟩
  let M : Mp := fun b => if b = a then some (.scr ns) else none
  have m : RepM K H M := fun b u z => by
    by_cases e : b = a
    · subst e
      have z' := (if_pos rfl).symm.trans z
      cases z'
      exact ⟨o, Ha⟩
    · have z' := (if_neg e).symm.trans z
      cases z'
  have want : rDL K S [.ref a] H fun v _ => v = .bl true :=
    ⟨[.ref a], M, (fun _ => False), _, .cons rfl .nil, m, (fun _ h => h.elim), hS a M (if_pos rfl), fun d M' v H' q t f r p => by subst q; exact p⟩
  refine codeAny_mono ((F _ kb (at_ hns) (let ⟨mc, h1, h2⟩ := hdig; ⟨mc, at_ h1, h2⟩)).run callerA [] s₁ H ⟨[.ref a], []⟩ [.ref a] [.ref a] _ (fun _ _ _ => False) hr rfl e0 (hbind s₁ (.ref a)) (.cons rfl .nil) want) fun r s' h => ?_
  cases r with
  | error e => exact h.elim
  | ok fl =>
    cases fl with
    | next => exact False.elim h
    | brk => exact False.elim h
    | cont => exact False.elim h
    | ret u =>
      obtain ⟨v, H', os, bare, un, hok', r', q⟩ := h
      have q' : v = .bl true := q
      subst q'
      obtain rfl : u = Value.bool true := r'
      refine ⟨rfl, OldK.of_keep fun b u e => ?_, os, bare⟩
      by_cases eb : b = a
      · subst eb
        obtain ⟨e2, _⟩ := hok' b _ (un.frzs b o _ Ha)
        rw [ha] at e
        cases e
        exact e2
      · exact un.keep b u e (Hn b eb) (by intro z; exact absurd (show b ∈ ([] : List Addr) from z) (by simp)) (by simp)
end DL

set_option Elab.async false
set_option linter.all false
set_option maxRecDepth 100000
set_option maxHeartbeats 4000000
/-! W1: the module plain. -/
namespace DL
open PySem L2
theorem kind_ref {a : Addr} {M : Mp} {k : String} (h : kind (.ref a) M = some k) : k = "list" ∨ k = "dict" := by
  have h : kindO (M a) = some k := h
  unfold kindO at h
  split at h <;> first | (cases h; simp; done) | cases h
theorem isaB_ref {c : Cs} {a : Addr} {M : Mp} {T : String} (h : kn (.ref a) M) (h1 : T ≠ "list") (h2 : T ≠ "dict") : isaB c T (.ref a) M = some false := by
  obtain ⟨k, h⟩ := h
  unfold isaB
  rw [h]
  rcases kind_ref h with rfl | rfl <;> simp [Ne.symm h1, Ne.symm h2]
theorem kn_ty {n : String} {M : Mp} (h : kn (.ty n) M) : False := by obtain ⟨k, h⟩ := h; cases h
/-! ### is_whole -/
def isWh (d : D) (lo hi : Int) : Bool := match d with
  | .int i => decide (lo ≤ i) && decide (i ≤ hi)
  | _ => false
def S_is_whole (_ : Cs) : Spec := fun ds M Q => ∃ d lo hi, ds = [d, .int lo, .int hi] ∧ kn d M ∧ Q (.bl (isWh d lo hi)) M
abbrev N_is_whole : List Str := ["thing", "low", "high"]
def ir_is_whole (c : Cs) : Ss := (.cons (.ret (.bop .And (.cons (.isa (.var 0) (.bty "int") (isaB c "int")) (.cons (.not_ (.isa (.var 0) (.bty "bool") (isaB c "bool"))) (.cons (.chain .LtE .LtE (.var 1) (.var 0) (.var 2)) .nil))))) .nil)
theorem wp_is_whole (c : Cs) {d : D} {lo hi : Int} {M : Mp} {Q : DQ} (hk : kn d M) (h : Q (.bl (isWh d lo hi)) M) : (ir_is_whole c).wp (bodyEnds Q) [some d, some (.int lo), some (.int hi)] M := by
  simp only [ir_is_whole, Ss.wp, S.wp, E.wp, E.wpT, Es.wp, Es.wpV, Es.wpT, Oe.wpO, Oe.wpT, Wk.wp, wSeq, wRet, wRetN, wNext, wNever, wDrop, wAsg, wIfS, wFor, wPar, wPar3, wFldS, wSetI, wSetK, wDnew, wMeth, wBm, wAndV, wOrV, wNotV, wAnd, wOr, wNot, wTest, wTru, wIf, w1, w2, w3, wVar, wC, wNil, wCons, wTup, wLst, wCall, wCallK, wO0, wO1, wSl, wLc, wISeq, wIR1, wIR2, wIZip, wIStr, wIEn, wDc, DcK.emp, Wk.wp, binF, cmpF, isaD, negD, Blt.spec, Bm.spec, Bm.ty, List.getElem?_cons_zero, List.getElem?_cons_succ, Option.some.injEq, exists_eq_left', exists_eq_left, exists_and_left, List.set_cons_zero, List.set_cons_succ, asn_name, asn_tup, asns_nil, asns_name, wipeD, tru_bl, tru_int, tru_non, tru_tup, bodyEnds, List.map_cons, List.map_nil, ↓reduceIte, Bool.false_eq_true, and_true, true_and, D.str.injEq, D.int.injEq, D.ref.injEq, D.tup.injEq, D.bl.injEq]
  cases d with
  | ty n => exact (kn_ty hk).elim
  | ref a =>
    refine ⟨false, isaB_ref hk (by decide) (by decide), ?_⟩
    simpa [isWh] using h
  | int i =>
    refine ⟨true, rfl, ?_⟩
    rw [if_pos rfl]
    refine ⟨false, rfl, ?_⟩
    refine (if_pos rfl).mpr (ord_int ⟨_, rfl, ?_⟩)
    by_cases h1 : lo ≤ i
    · simp only [h1, decide_true, if_true]
      refine ord_int ?_
      simpa [isWh, h1] using h
    · simp only [h1, decide_false]
      simpa [isWh, h1] using h
  | bl b =>
    refine ⟨true, rfl, ?_⟩
    rw [if_pos rfl]
    exact ⟨true, rfl, by simpa [isWh] using h⟩
  | _ => exact ⟨false, rfl, by simpa [isWh] using h⟩
/-! ### are_whole -/
def areWh (d : D) (lo hi : Int) : Bool := match d with
  | .tup xs => xs.all fun x => isWh x lo hi
  | _ => false
/-- the things in a tuple are of known kinds -/
def kns (d : D) (M : Mp) : Prop := kn d M ∧ ∀ xs, d = .tup xs → ∀ x ∈ xs, kn x M
def S_are_whole (_ : Cs) : Spec := fun ds M Q => ∃ d lo hi, ds = [d, .int lo, .int hi] ∧ kns d M ∧ ∀ M', Keep M M' → Q (.bl (areWh d lo hi)) M'
abbrev N_are_whole : List Str := ["thing", "low", "high", "one"]
def ir_are_whole (c : Cs) : Ss := (.cons (.ret (.bop .And (.cons (.isa (.var 0) (.bty "tuple") (isaB c "tuple")) (.cons (.bcall .all (.cons (.lc [("one", 3)] (.name 3) (.seq (.var 0)) .none (.call "is_whole" (S_is_whole c) (.cons (.var 3) (.cons (.var 1) (.cons (.var 2) .nil))))) .nil)) .nil)))) .nil)
theorem seqT_t {ds : List D} {M : Mp} : seqT M (.tup ds) ⟨ds, fun _ => True⟩ := .inl ⟨ds, rfl, rfl⟩
theorem seqT_l {p : Addr} {ds : List D} {M : Mp} (h : M p = some (.lst ds)) : seqT M (.ref p) ⟨ds, fun M => M p = some (.lst ds)⟩ := .inr ⟨p, ds, rfl, h, rfl⟩
theorem wp_are_whole (c : Cs) {d : D} {lo hi : Int} {M : Mp} {Q : DQ} (hz : sz d) (hk : kns d M) (h : ∀ M', Keep M M' → Q (.bl (areWh d lo hi)) M') : (ir_are_whole c).wp (bodyEnds Q) [some d, some (.int lo), some (.int hi), none] M := by
  simp only [ir_are_whole, Ss.wp, S.wp, E.wp, E.wpT, Es.wp, Es.wpV, Es.wpT, Oe.wpO, Oe.wpT, Wk.wp, wSeq, wRet, wRetN, wNext, wNever, wDrop, wAsg, wIfS, wFor, wPar, wPar3, wFldS, wSetI, wSetK, wDnew, wMeth, wBm, wAndV, wOrV, wNotV, wAnd, wOr, wNot, wTest, wTru, wIf, w1, w2, w3, wVar, wC, wNil, wCons, wTup, wLst, wCall, wCallK, wO0, wO1, wSl, wLc, wISeq, wIR1, wIR2, wIZip, wIStr, wIEn, wDc, DcK.emp, Wk.wp, binF, cmpF, isaD, negD, Blt.spec, Bm.spec, Bm.ty, List.getElem?_cons_zero, List.getElem?_cons_succ, Option.some.injEq, exists_eq_left', exists_eq_left, exists_and_left, List.set_cons_zero, List.set_cons_succ, asn_name, asn_tup, asns_nil, asns_name, wipeD, tru_bl, tru_int, tru_non, tru_tup, bodyEnds, List.map_cons, List.map_nil, ↓reduceIte, Bool.false_eq_true, and_true, true_and, D.str.injEq, D.int.injEq, D.ref.injEq, D.tup.injEq, D.bl.injEq]
  cases d with
  | ty n => exact (kn_ty hk.1).elim
  | ref a => exact ⟨false, isaB_ref hk.1 (by decide) (by decide), by simpa [areWh] using h M (.refl M)⟩
  | tup xs =>
    refine ⟨true, rfl, (if_pos rfl).mpr ⟨_, seqT_t, (sz_tup hz).1, ?_⟩⟩
    refine all_go (fun x => isWh x lo hi) (fun _ _ => trivial) (fun x hx M2 k h2 hkk => ⟨_, rfl, ?_⟩) h
    simp only [Ss.wp, S.wp, E.wp, E.wpT, Es.wp, Es.wpV, Es.wpT, Oe.wpO, Oe.wpT, Wk.wp, wSeq, wRet, wRetN, wNext, wNever, wDrop, wAsg, wIfS, wFor, wPar, wPar3, wFldS, wSetI, wSetK, wDnew, wMeth, wBm, wAndV, wOrV, wNotV, wAnd, wOr, wNot, wTest, wTru, wIf, w1, w2, w3, wVar, wC, wNil, wCons, wTup, wLst, wCall, wCallK, wO0, wO1, wSl, wLc, wISeq, wIR1, wIR2, wIZip, wIStr, wIEn, wDc, DcK.emp, Wk.wp, binF, cmpF, isaD, negD, Blt.spec, Bm.spec, Bm.ty, List.getElem?_cons_zero, List.getElem?_cons_succ, Option.some.injEq, exists_eq_left', exists_eq_left, exists_and_left, List.set_cons_zero, List.set_cons_succ, asn_name, asn_tup, asns_nil, asns_name, wipeD, tru_bl, tru_int, tru_non, tru_tup, bodyEnds, List.map_cons, List.map_nil, ↓reduceIte, Bool.false_eq_true, and_true, true_and, D.str.injEq, D.int.injEq, D.ref.injEq, D.tup.injEq, D.bl.injEq]
    exact ⟨x, lo, hi, rfl, (hk.2 xs rfl x hx).keep h2, hkk M2 h2⟩
  | _ => exact ⟨false, rfl, by simpa [areWh] using h M (.refl M)⟩
/-! ### is_name -/
def isLetter (c : Nat) : Bool := decide (97 ≤ c) && decide (c ≤ 122)
def nameS (x : Str) : Bool := decide (1 ≤ x.length) && decide (x.length ≤ 6) && x.cps.toList.all isLetter
def isNm (d : D) : Bool := match d with
  | .str x => nameS x
  | _ => false
def S_is_name (_ : Cs) : Spec := fun ds M Q => ∃ d, ds = [d] ∧ kn d M ∧ (∀ x, d = .str x → x.length ≤ sizeLine) ∧ ∀ M', Keep M M' → Q (.bl (isNm d)) M'
abbrev N_is_name : List Str := ["thing", "sign"]
def ir_is_name (c : Cs) : Ss := (.cons (.ret (.bop .And (.cons (.isa (.var 0) (.bty "str") (isaB c "str")) (.cons (.chain .LtE .LtE (.int 1) (.bcall .len (.cons (.var 0) .nil)) (.glob "MOST_LETTERS" (.int 6))) (.cons (.bcall .all (.cons (.lc [("sign", 1)] (.name 1) (.str (.var 0)) .none (.cmp .In (.var 1) (.glob "LETTERS" (.str "abcdefghijklmnopqrstuvwxyz")))) .nil)) .nil))))) .nil)
theorem letters_mem (c : Nat) : decide (c ∈ (Str.ofString "abcdefghijklmnopqrstuvwxyz").cps.toList) = isLetter c := by
  have e : (Str.ofString "abcdefghijklmnopqrstuvwxyz").cps.toList = (List.range 26).map (97 + ·) := by decide +kernel
  rw [e]
  unfold isLetter
  by_cases h : 97 ≤ c ∧ c ≤ 122
  · rw [decide_eq_true h.1, decide_eq_true h.2, decide_eq_true]
    · rfl
    · exact List.mem_map.mpr ⟨c - 97, List.mem_range.mpr (by omega), by omega⟩
  · rw [decide_eq_false]
    · by_cases h1 : 97 ≤ c
      · rw [decide_eq_true h1, decide_eq_false (fun h2 => h ⟨h1, h2⟩)]; rfl
      · rw [decide_eq_false h1]; rfl
    · intro hm
      obtain ⟨i, hi, e⟩ := List.mem_map.mp hm
      rw [List.mem_range] at hi
      exact h (by omega)
theorem wp_is_name (c : Cs) {d : D} {M : Mp} {Q : DQ} (hk : kn d M) (hl : ∀ x, d = .str x → x.length ≤ sizeLine) (h : ∀ M', Keep M M' → Q (.bl (isNm d)) M') : (ir_is_name c).wp (bodyEnds Q) [some d, none] M := by
  simp only [ir_is_name, Ss.wp, S.wp, E.wp, E.wpT, Es.wp, Es.wpV, Es.wpT, Oe.wpO, Oe.wpT, Wk.wp, wSeq, wRet, wRetN, wNext, wNever, wDrop, wAsg, wIfS, wFor, wPar, wPar3, wFldS, wSetI, wSetK, wDnew, wMeth, wBm, wAndV, wOrV, wNotV, wAnd, wOr, wNot, wTest, wTru, wIf, w1, w2, w3, wVar, wC, wNil, wCons, wTup, wLst, wCall, wCallK, wO0, wO1, wSl, wLc, wISeq, wIR1, wIR2, wIZip, wIStr, wIEn, wDc, DcK.emp, Wk.wp, binF, cmpF, isaD, negD, Blt.spec, Bm.spec, Bm.ty, List.getElem?_cons_zero, List.getElem?_cons_succ, Option.some.injEq, exists_eq_left', exists_eq_left, exists_and_left, List.set_cons_zero, List.set_cons_succ, asn_name, asn_tup, asns_nil, asns_name, wipeD, tru_bl, tru_int, tru_non, tru_tup, bodyEnds, List.map_cons, List.map_nil, ↓reduceIte, Bool.false_eq_true, and_true, true_and, D.str.injEq, D.int.injEq, D.ref.injEq, D.tup.injEq, D.bl.injEq]
  cases d with
  | ty n => exact (kn_ty hk).elim
  | ref a => exact ⟨false, isaB_ref hk (by decide) (by decide), by simpa [isNm] using h M (.refl M)⟩
  | str x =>
    have hx := hl x rfl
    refine ⟨true, rfl, (if_pos rfl).mpr ?_⟩
    refine ⟨_, _, rfl, ⟨hx, rfl⟩, ord_int ⟨_, rfl, ?_⟩⟩
    by_cases h1 : 1 ≤ x.length
    · have h1' : (1 : Int) ≤ (x.length : Int) := by omega
      simp only [h1', decide_true, if_true]
      refine ord_int ⟨_, rfl, ?_⟩
      by_cases h2 : x.length ≤ 6
      · have h2' : (x.length : Int) ≤ 6 := by omega
        simp only [h2', decide_true, if_true]
        have hz : (strI x).length ≤ sizeLine := by
          have e : (strI x).length = x.length := by unfold strI; rw [List.length_map, Array.length_toList]; rfl
          rw [e]; exact hx
        refine ⟨x, rfl, hz, ?_⟩
        have e : isNm (.str x) = (strI x).all fun d => match d with | .str y => y.cps.toList.all isLetter | _ => false := by
          show nameS x = _
          unfold nameS strI
          rw [decide_eq_true h1, decide_eq_true h2, List.all_map]
          show x.cps.toList.all isLetter = _
          congr 1
          funext cc
          simp
        refine all_go (T := ⟨strI x, fun _ => True⟩) (fun d => match d with | .str y => y.cps.toList.all isLetter | _ => false) (fun _ _ => trivial) (fun y hy M2 k h2 hkk => ⟨_, rfl, ?_⟩) (fun M2 h2 => by rw [← e]; exact h M2 h2)
        obtain ⟨cc, _, rfl⟩ := List.mem_map.mp hy
        simp only [Ss.wp, S.wp, E.wp, E.wpT, Es.wp, Es.wpV, Es.wpT, Oe.wpO, Oe.wpT, Wk.wp, wSeq, wRet, wRetN, wNext, wNever, wDrop, wAsg, wIfS, wFor, wPar, wPar3, wFldS, wSetI, wSetK, wDnew, wMeth, wBm, wAndV, wOrV, wNotV, wAnd, wOr, wNot, wTest, wTru, wIf, w1, w2, w3, wVar, wC, wNil, wCons, wTup, wLst, wCall, wCallK, wO0, wO1, wSl, wLc, wISeq, wIR1, wIR2, wIZip, wIStr, wIEn, wDc, DcK.emp, Wk.wp, binF, cmpF, isaD, negD, Blt.spec, Bm.spec, Bm.ty, List.getElem?_cons_zero, List.getElem?_cons_succ, Option.some.injEq, exists_eq_left', exists_eq_left, exists_and_left, List.set_cons_zero, List.set_cons_succ, asn_name, asn_tup, asns_nil, asns_name, wipeD, tru_bl, tru_int, tru_non, tru_tup, bodyEnds, List.map_cons, List.map_nil, ↓reduceIte, Bool.false_eq_true, and_true, true_and, D.str.injEq, D.int.injEq, D.ref.injEq, D.tup.injEq, D.bl.injEq]
        refine .inr ⟨cc, _, rfl, rfl, ?_⟩
        have q := hkk M2 h2
        show k (.bl (decide (cc ∈ _))) M2
        rw [letters_mem]
        simpa using q
      · have h2' : ¬ (x.length : Int) ≤ 6 := by omega
        simp only [h2', decide_false]
        simpa [isNm, nameS, h1, h2] using h M (.refl M)
    · have h1' : ¬ (1 : Int) ≤ (x.length : Int) := by omega
      simp only [h1', decide_false]
      simpa [isNm, nameS, h1] using h M (.refl M)
  | _ => exact ⟨false, rfl, by simpa [isNm] using h M (.refl M)⟩
/-! ### are_rising -/
/-- two things of one kind, the first the lesser -/
def ltP (x y : D) : Bool := PySem.W.dataLt (py x) (py y)
def risB : List D → Bool
  | x :: y :: r => ltP x y && risB (y :: r)
  | _ => true
/-- things that can be compared -/
def cmpP (x y : D) : Prop := plain x = true ∧ plain y = true ∧ PySem.W.alike (py x) (py y) = true ∧ py x ≠ .none ∧ (py x).depth ≤ 64
def cmpL : List D → Prop
  | x :: y :: r => cmpP x y ∧ cmpL (y :: r)
  | _ => True
theorem lt_plain {x y : D} {M : Mp} {Q : DQ} (h : cmpP x y) (q : Q (.bl (ltP x y)) M) : ordD .lt x y M Q := .inr ⟨py x, py y, .plain h.1, .plain h.2.1, h.2.2.1, h.2.2.2.1, h.2.2.2.2, q⟩
def S_are_rising (_ : Cs) : Spec := fun ds M Q => ∃ d xs, ds = [d] ∧ seqD M d xs ∧ cmpL xs ∧ ∀ M', Keep M M' → Q (.bl (risB xs)) M'
abbrev N_are_rising : List Str := ["some", "one", "other"]
def ir_are_rising (c : Cs) : Ss := (.cons (.ret (.bcall .all (.cons (.lc [("one", 1), ("other", 2)] (.tup (.cons (.name 1) (.cons (.name 2) .nil))) (.zip (.var 0) (.slc (.var 0) (.some (.int 1)) .none)) .none (.cmp .Lt (.var 1) (.var 2))) .nil))) .nil)
theorem cut_one {α : Type} (xs : List α) : cutL xs (some 1) none = xs.drop 1 := by
  unfold cutL
  rw [show HT.sIx xs.length 0 (some 1) = min 1 xs.length from HT.sIx_nat xs.length 0 1, HT.sIx_none]
  cases xs with
  | nil => rfl
  | cons x r =>
    rw [show min 1 (x :: r).length = 1 by rw [List.length_cons]; omega]
    show (List.take ((x :: r).length - 1) r) = r
    rw [List.length_cons, Nat.add_sub_cancel]
    exact List.take_length
theorem slD_t {ds ds' : List D} {lo hi : Option Int} {M : Mp} {Q : DQ} (e : cutL ds lo hi = ds') (h : Q (.tup ds') M) : slD (.tup ds) lo hi M Q := by subst e; exact h
theorem slD_l {p : Addr} {ds ds' : List D} {lo hi : Option Int} {M : Mp} {Q : DQ} (e : cutL ds lo hi = ds') (hp : M p = some (.lst ds)) (h : ∀ l, M l = none → Q (.ref l) (up M l (.lst ds'))) : slD (.ref p) lo hi M Q := by subst e; exact ⟨ds, hp, h⟩
theorem slD_s {z z' : Str} {lo hi : Option Int} {M : Mp} {Q : DQ} (e : cutS z lo hi = z') (hz : z.length ≤ sizeLine) (h : Q (.str z') M) : slD (.str z) lo hi M Q := by subst e; exact ⟨hz, h⟩
theorem zip_tail : ∀ (xs : List D), cmpL xs → (∀ z ∈ zipI xs (xs.drop 1), ∃ x y, z = .tup [x, y] ∧ cmpP x y) ∧ (zipI xs (xs.drop 1)).all (fun z => match z with | .tup [x, y] => ltP x y | _ => false) = risB xs
  | [], _ => ⟨fun z hz => (by cases hz), rfl⟩
  | [x], _ => ⟨fun z hz => (by cases hz), rfl⟩
  | x :: y :: r, h => by
    unfold cmpL at h
    obtain ⟨h1, h2⟩ := zip_tail (y :: r) h.2
    have e : zipI (x :: y :: r) ((x :: y :: r).drop 1) = .tup [x, y] :: zipI (y :: r) ((y :: r).drop 1) := rfl
    rw [e]
    refine ⟨fun z hz => ?_, ?_⟩
    · rcases List.mem_cons.mp hz with rfl | hz
      · exact ⟨x, y, rfl, h.1⟩
      · exact h1 z hz
    · rw [List.all_cons, h2]
      rfl
theorem wp_are_rising (c : Cs) {d : D} {xs : List D} {M : Mp} {Q : DQ} (hs : seqD M d xs) (hz : xs.length ≤ sizeLine) (hc : cmpL xs) (h : ∀ M', Keep M M' → Q (.bl (risB xs)) M') : (ir_are_rising c).wp (bodyEnds Q) [some d, none, none] M := by
  simp only [ir_are_rising, Ss.wp, S.wp, E.wp, E.wpT, Es.wp, Es.wpV, Es.wpT, Oe.wpO, Oe.wpT, Wk.wp, wSeq, wRet, wRetN, wNext, wNever, wDrop, wAsg, wIfS, wFor, wPar, wPar3, wFldS, wSetI, wSetK, wDnew, wMeth, wBm, wAndV, wOrV, wNotV, wAnd, wOr, wNot, wTest, wTru, wIf, w1, w2, w3, wVar, wC, wNil, wCons, wTup, wLst, wCall, wCallK, wO0, wO1, wSl, wLc, wISeq, wIR1, wIR2, wIZip, wIStr, wIEn, wDc, DcK.emp, Wk.wp, binF, cmpF, isaD, negD, Blt.spec, Bm.spec, Bm.ty, List.getElem?_cons_zero, List.getElem?_cons_succ, Option.some.injEq, exists_eq_left', exists_eq_left, exists_and_left, List.set_cons_zero, List.set_cons_succ, asn_name, asn_tup, asns_nil, asns_name, wipeD, tru_bl, tru_int, tru_non, tru_tup, bodyEnds, List.map_cons, List.map_nil, ↓reduceIte, Bool.false_eq_true, and_true, true_and, D.str.injEq, D.int.injEq, D.ref.injEq, D.tup.injEq, D.bl.injEq]
  obtain ⟨h1, h2⟩ := zip_tail xs hc
  have hz' : (zipI xs (xs.drop 1)).length ≤ sizeLine := by rw [zipI_len, List.length_drop]; omega
  have go : ∀ (T : DIt) (M1 : Mp), T.items = zipI xs (xs.drop 1) → Keep M M1 → (∀ M2, Keep M1 M2 → T.keep M2) → T.items.length ≤ sizeLine ∧ lcGo T (.tup (.cons (.name 1) (.cons (.name 2) .nil))) wYes (w2 (ordD Ord.lt) (wVar 1) (wVar 2)) [some d, none, none] (fun acc M2 => ∀ (p : Addr), M2 p = none → allS [D.ref p] (up M2 p (MO.lst acc)) Q) T.items [] M1 := by
    intro T M1 e k1 kT
    refine ⟨by rw [e]; exact hz', all_go (fun z => match z with | .tup [x, y] => ltP x y | _ => false) kT (fun z hz M2 k k2 hk => ?_) fun M2 k2 => ?_⟩
    · rw [e] at hz
      obtain ⟨x, y, rfl, hxy⟩ := h1 z hz
      refine ⟨_, rfl, ?_⟩
      simp only [Ss.wp, S.wp, E.wp, E.wpT, Es.wp, Es.wpV, Es.wpT, Oe.wpO, Oe.wpT, Wk.wp, wSeq, wRet, wRetN, wNext, wNever, wDrop, wAsg, wIfS, wFor, wPar, wPar3, wFldS, wSetI, wSetK, wDnew, wMeth, wBm, wAndV, wOrV, wNotV, wAnd, wOr, wNot, wTest, wTru, wIf, w1, w2, w3, wVar, wC, wNil, wCons, wTup, wLst, wCall, wCallK, wO0, wO1, wSl, wLc, wISeq, wIR1, wIR2, wIZip, wIStr, wIEn, wDc, DcK.emp, Wk.wp, binF, cmpF, isaD, negD, Blt.spec, Bm.spec, Bm.ty, List.getElem?_cons_zero, List.getElem?_cons_succ, Option.some.injEq, exists_eq_left', exists_eq_left, exists_and_left, List.set_cons_zero, List.set_cons_succ, asn_name, asn_tup, asns_nil, asns_name, wipeD, tru_bl, tru_int, tru_non, tru_tup, bodyEnds, List.map_cons, List.map_nil, ↓reduceIte, Bool.false_eq_true, and_true, true_and, D.str.injEq, D.int.injEq, D.ref.injEq, D.tup.injEq, D.bl.injEq]
      exact lt_plain hxy (hk M2 k2)
    · rw [e, h2]
      exact h M2 (k1.trans k2)
  rcases hs with rfl | ⟨a, rfl, ha⟩
  · exact slD_t (cut_one xs) ⟨_, .inl ⟨xs, _, rfl, rfl, rfl⟩, go _ M rfl (.refl M) fun _ _ => trivial⟩
  · refine slD_l (cut_one xs) ha fun l hl => ?_
    have e1 : up M l (.lst (xs.drop 1)) a = some (.lst xs) := Keep.new hl a _ ha
    have e2 : up M l (.lst (xs.drop 1)) l = some (.lst (xs.drop 1)) := up_same
    exact ⟨_, .inr ⟨a, l, xs, _, rfl, rfl, e1, e2, rfl⟩, go _ _ rfl (.new hl) fun M2 k2 => ⟨k2 _ _ e1, k2 _ _ e2⟩⟩
/-! ### are_pairs -/
def isPr (d : D) (lo hi : Int) : Bool := match d with
  | .tup [x, y] => isWh x lo hi && isWh y lo hi
  | _ => false
def arePr (d : D) (lo hi : Int) : Bool := match d with
  | .tup xs => (xs.all fun x => isPr x lo hi) && risB xs
  | _ => false
/-- things of known kinds, to the second depth -/
def kns2 (d : D) (M : Mp) : Prop := kn d M ∧ ∀ xs, d = .tup xs → ∀ x ∈ xs, kns x M
def S_are_pairs (_ : Cs) : Spec := fun ds M Q => ∃ d lo hi, ds = [d, .int lo, .int hi] ∧ kns2 d M ∧ ∀ M', Keep M M' → Q (.bl (arePr d lo hi)) M'
abbrev N_are_pairs : List Str := ["thing", "low", "high", "pair"]
def ir_are_pairs (c : Cs) : Ss := (.cons (.ife (.bop .Or (.cons (.not_ (.isa (.var 0) (.bty "tuple") (isaB c "tuple"))) (.cons (.not_ (.bcall .all (.cons (.lc [("pair", 3)] (.name 3) (.seq (.var 0)) .none (.bop .And (.cons (.call "are_whole" (S_are_whole c) (.cons (.var 3) (.cons (.var 1) (.cons (.var 2) .nil)))) (.cons (.cmp .Eq (.bcall .len (.cons (.var 3) .nil)) (.int 2)) .nil)))) .nil))) .nil))) (.cons (.ret (.bl false)) .nil) .nil) (.cons (.ret (.call "are_rising" (S_are_rising c) (.cons (.var 0) .nil))) .nil))
theorem isWh_int {d : D} {lo hi : Int} (h : isWh d lo hi = true) : ∃ i, d = .int i := by
  cases d <;> first | exact ⟨_, rfl⟩ | cases h
theorem isPr_eq (d : D) (lo hi : Int) : isPr d lo hi = (areWh d lo hi && (match d with | .tup xs => decide (xs.length = 2) | _ => false)) := by
  cases d with
  | tup xs =>
    match xs with
    | [] => rfl
    | [x] => simp [isPr, areWh]
    | [x, y] => simp [isPr, areWh]
    | x :: y :: z :: r => simp [isPr, areWh]
  | _ => rfl
theorem isPr_ints {d : D} {lo hi : Int} (h : isPr d lo hi = true) : ∃ i j, d = .tup [.int i, .int j] := by
  unfold isPr at h
  split at h
  · rename_i x y
    rw [Bool.and_eq_true] at h
    obtain ⟨i, rfl⟩ := isWh_int h.1
    obtain ⟨j, rfl⟩ := isWh_int h.2
    exact ⟨i, j, rfl⟩
  · cases h
theorem cmpP_ii (i j i' j' : Int) : cmpP (.tup [.int i, .int j]) (.tup [.int i', .int j']) := by
  refine ⟨rfl, rfl, ?_, ?_, ?_⟩
  · simp [py, pys, PySem.W.alike, PySem.W.alikeAll]
  · simp [py, pys]
  · simp [py, pys, PyData.depth, PyData.depthAll]
theorem cmpL_of : ∀ {xs : List D}, (∀ x ∈ xs, ∀ y ∈ xs, cmpP x y) → cmpL xs
  | [], _ => trivial
  | [_], _ => trivial
  | x :: y :: r, h => ⟨h x (by simp) y (by simp), cmpL_of fun a ha b hb => h a (List.mem_cons_of_mem _ ha) b (List.mem_cons_of_mem _ hb)⟩
theorem wp_are_pairs (c : Cs) {d : D} {lo hi : Int} {M : Mp} {Q : DQ} (hz : sz d) (hk : kns2 d M) (h : ∀ M', Keep M M' → Q (.bl (arePr d lo hi)) M') : (ir_are_pairs c).wp (bodyEnds Q) [some d, some (.int lo), some (.int hi), none] M := by
  simp only [ir_are_pairs, Ss.wp, S.wp, E.wp, E.wpT, Es.wp, Es.wpV, Es.wpT, Oe.wpO, Oe.wpT, Wk.wp, wSeq, wRet, wRetN, wNext, wNever, wDrop, wAsg, wIfS, wFor, wPar, wPar3, wFldS, wSetI, wSetK, wDnew, wMeth, wBm, wAndV, wOrV, wNotV, wAnd, wOr, wNot, wTest, wTru, wIf, w1, w2, w3, wVar, wC, wNil, wCons, wTup, wLst, wCall, wCallK, wO0, wO1, wSl, wLc, wISeq, wIR1, wIR2, wIZip, wIStr, wIEn, wDc, DcK.emp, Wk.wp, binF, cmpF, isaD, negD, Blt.spec, Bm.spec, Bm.ty, List.getElem?_cons_zero, List.getElem?_cons_succ, Option.some.injEq, exists_eq_left', exists_eq_left, exists_and_left, List.set_cons_zero, List.set_cons_succ, asn_name, asn_tup, asns_nil, asns_name, wipeD, tru_bl, tru_int, tru_non, tru_tup, bodyEnds, List.map_cons, List.map_nil, ↓reduceIte, Bool.false_eq_true, and_true, true_and, D.str.injEq, D.int.injEq, D.ref.injEq, D.tup.injEq, D.bl.injEq]
  cases d with
  | ty n => exact (kn_ty hk.1).elim
  | ref a => exact ⟨false, isaB_ref hk.1 (by decide) (by decide), by simpa [arePr] using h M (.refl M)⟩
  | tup xs =>
    refine ⟨true, rfl, ?_⟩
    simp only [Bool.not_true, Bool.false_eq_true, if_false]
    refine ⟨_, seqT_t, (sz_tup hz).1, ?_⟩
    refine all_go (T := ⟨xs, fun _ => True⟩) (fun x => isPr x lo hi) (fun _ _ => trivial) (fun x hx M2 k h2 hkk => ⟨_, rfl, ?_⟩) fun M2 h2 => ?_
    · simp only [Ss.wp, S.wp, E.wp, E.wpT, Es.wp, Es.wpV, Es.wpT, Oe.wpO, Oe.wpT, Wk.wp, wSeq, wRet, wRetN, wNext, wNever, wDrop, wAsg, wIfS, wFor, wPar, wPar3, wFldS, wSetI, wSetK, wDnew, wMeth, wBm, wAndV, wOrV, wNotV, wAnd, wOr, wNot, wTest, wTru, wIf, w1, w2, w3, wVar, wC, wNil, wCons, wTup, wLst, wCall, wCallK, wO0, wO1, wSl, wLc, wISeq, wIR1, wIR2, wIZip, wIStr, wIEn, wDc, DcK.emp, Wk.wp, binF, cmpF, isaD, negD, Blt.spec, Bm.spec, Bm.ty, List.getElem?_cons_zero, List.getElem?_cons_succ, Option.some.injEq, exists_eq_left', exists_eq_left, exists_and_left, List.set_cons_zero, List.set_cons_succ, asn_name, asn_tup, asns_nil, asns_name, wipeD, tru_bl, tru_int, tru_non, tru_tup, bodyEnds, List.map_cons, List.map_nil, ↓reduceIte, Bool.false_eq_true, and_true, true_and, D.str.injEq, D.int.injEq, D.ref.injEq, D.tup.injEq, D.bl.injEq]
      refine ⟨x, lo, hi, rfl, ⟨(hk.2 xs rfl x hx).1.keep h2, fun ys e y hy => ((hk.2 xs rfl x hx).2 ys e y hy).keep h2⟩, fun M3 h3 => ?_⟩
      have q := hkk M3 (h2.trans h3)
      rw [isPr_eq] at q
      simp only [Ss.wp, S.wp, E.wp, E.wpT, Es.wp, Es.wpV, Es.wpT, Oe.wpO, Oe.wpT, Wk.wp, wSeq, wRet, wRetN, wNext, wNever, wDrop, wAsg, wIfS, wFor, wPar, wPar3, wFldS, wSetI, wSetK, wDnew, wMeth, wBm, wAndV, wOrV, wNotV, wAnd, wOr, wNot, wTest, wTru, wIf, w1, w2, w3, wVar, wC, wNil, wCons, wTup, wLst, wCall, wCallK, wO0, wO1, wSl, wLc, wISeq, wIR1, wIR2, wIZip, wIStr, wIEn, wDc, DcK.emp, Wk.wp, binF, cmpF, isaD, negD, Blt.spec, Bm.spec, Bm.ty, List.getElem?_cons_zero, List.getElem?_cons_succ, Option.some.injEq, exists_eq_left', exists_eq_left, exists_and_left, List.set_cons_zero, List.set_cons_succ, asn_name, asn_tup, asns_nil, asns_name, wipeD, tru_bl, tru_int, tru_non, tru_tup, bodyEnds, List.map_cons, List.map_nil, ↓reduceIte, Bool.false_eq_true, and_true, true_and, D.str.injEq, D.int.injEq, D.ref.injEq, D.tup.injEq, D.bl.injEq]
      by_cases ha : areWh x lo hi = true
      · rw [if_pos ha]
        cases x <;> first | (cases ha; done) | skip
        rename_i ys
        refine ⟨_, ys.length, rfl, rfl, eq_int ?_⟩
        rw [ha, Bool.true_and] at q
        have e : decide ((ys.length : Int) = 2) = decide (ys.length = 2) := by
          by_cases h2 : ys.length = 2
          · simp [h2]
          · have : ¬ (ys.length : Int) = 2 := by omega
            simp [h2, this]
        simp only [Bool.false_eq_true, if_false, e]
        exact q
      · rw [if_neg ha]
        rw [Bool.not_eq_true] at ha
        rw [ha, Bool.false_and] at q
        rw [ha]
        exact q
    · simp only [Ss.wp, S.wp, E.wp, E.wpT, Es.wp, Es.wpV, Es.wpT, Oe.wpO, Oe.wpT, Wk.wp, wSeq, wRet, wRetN, wNext, wNever, wDrop, wAsg, wIfS, wFor, wPar, wPar3, wFldS, wSetI, wSetK, wDnew, wMeth, wBm, wAndV, wOrV, wNotV, wAnd, wOr, wNot, wTest, wTru, wIf, w1, w2, w3, wVar, wC, wNil, wCons, wTup, wLst, wCall, wCallK, wO0, wO1, wSl, wLc, wISeq, wIR1, wIR2, wIZip, wIStr, wIEn, wDc, DcK.emp, Wk.wp, binF, cmpF, isaD, negD, Blt.spec, Bm.spec, Bm.ty, List.getElem?_cons_zero, List.getElem?_cons_succ, Option.some.injEq, exists_eq_left', exists_eq_left, exists_and_left, List.set_cons_zero, List.set_cons_succ, asn_name, asn_tup, asns_nil, asns_name, wipeD, tru_bl, tru_int, tru_non, tru_tup, bodyEnds, List.map_cons, List.map_nil, ↓reduceIte, Bool.false_eq_true, and_true, true_and, D.str.injEq, D.int.injEq, D.ref.injEq, D.tup.injEq, D.bl.injEq]
      by_cases ha : (xs.all fun x => isPr x lo hi) = true
      · rw [ha]
        simp only [Bool.not_true, Bool.false_eq_true, if_false]
        refine ⟨_, xs, rfl, .inl rfl, cmpL_of fun x hx y hy => ?_, fun M3 h3 => ?_⟩
        · obtain ⟨i, j, rfl⟩ := isPr_ints (List.all_eq_true.mp ha x hx)
          obtain ⟨i', j', rfl⟩ := isPr_ints (List.all_eq_true.mp ha y hy)
          exact cmpP_ii i j i' j'
        · have q := h M3 (h2.trans h3)
          simp only [arePr, ha, Bool.true_and] at q
          exact q
      · rw [Bool.not_eq_true] at ha
        rw [ha]
        simp only [Bool.not_false, if_true]
        have q := h M2 h2
        simp only [arePr, ha, Bool.false_and] at q
        exact q
  | _ => exact ⟨false, rfl, by simpa [arePr] using h M (.refl M)⟩
end DL

set_option Elab.async false
set_option linter.all false
set_option maxRecDepth 100000
set_option maxHeartbeats 4000000
/-! W2: houses, of good values. -/
namespace DL
open PySem L2
theorem atI_nat {α : Type} {xs : List α} {n : Nat} {x : α} (h : xs[n]? = some x) : L2.atI xs (n : Int) = some x := by
  have hl : n < xs.length := by
    rcases Nat.lt_or_ge n xs.length with h1 | h1
    · exact h1
    · rw [List.getElem?_eq_none h1] at h; cases h
  unfold L2.atI L2.ixN
  rw [if_pos (by omega), if_pos (by omega)]
  show xs[(n : Int).toNat]? = some x
  rw [Int.toNat_natCast]
  exact h
theorem ix_t (n : Nat) {ds : List D} {d : D} {M : Mp} {Q : DQ} (h : ds[n]? = some d) (q : Q d M) : ixD (.tup ds) (.int (n : Int)) M Q := .inl ⟨ds, n, d, .inl rfl, rfl, atI_nat h, q⟩
theorem ix_l (n : Nat) {p : Addr} {ds : List D} {d : D} {M : Mp} {Q : DQ} (hp : M p = some (.lst ds)) (h : ds[n]? = some d) (q : Q d M) : ixD (.ref p) (.int (n : Int)) M Q := .inl ⟨ds, n, d, .inr ⟨p, rfl, hp⟩, rfl, atI_nat h, q⟩
theorem len_t {ds : List D} {M : Mp} {Q : DQ} (q : Q (.int ds.length) M) : lenS [.tup ds] M Q := ⟨_, ds.length, rfl, rfl, q⟩
theorem len_l {p : Addr} {ds : List D} {M : Mp} {Q : DQ} (hp : M p = some (.lst ds)) (q : Q (.int ds.length) M) : lenS [.ref p] M Q := ⟨_, ds.length, rfl, .inl ⟨ds, hp, rfl⟩, q⟩
/-- a name and something -/
def called (x : D) : Prop := ∃ nm d, x = .tup [.str nm, d] ∧ nameS nm = true
def nameD : D → D
  | .tup (n :: _) => n
  | _ => .non
theorem nameS_len {x : Str} (h : nameS x = true) : x.length ≤ sizeLine := by
  unfold nameS at h
  rw [Bool.and_eq_true, Bool.and_eq_true] at h
  have := of_decide_eq_true h.1.2
  rw [sizeLine_eq]; omega
/-! ### are_called -/
def S_are_called (_ : Cs) : Spec := fun ds M Q => ∃ xs most, ds = [.tup xs, .int most] ∧ (xs.length : Int) ≤ most ∧ (∀ x ∈ xs, called x) ∧ risB (xs.map nameD) = true ∧ ∀ M', Keep M M' → Q (.bl true) M'
abbrev N_are_called : List Str := ["thing", "most", "one"]
def ir_are_called (c : Cs) : Ss := (.cons (.ife (.bop .Or (.cons (.not_ (.isa (.var 0) (.bty "tuple") (isaB c "tuple"))) (.cons (.cmp .Gt (.bcall .len (.cons (.var 0) .nil)) (.var 1)) .nil))) (.cons (.ret (.bl false)) .nil) .nil) (.cons (.ife (.not_ (.bcall .all (.cons (.lc [("one", 2)] (.name 2) (.seq (.var 0)) .none (.bop .And (.cons (.isa (.var 2) (.bty "tuple") (isaB c "tuple")) (.cons (.cmp .Eq (.bcall .len (.cons (.var 2) .nil)) (.int 2)) (.cons (.call "is_name" (S_is_name c) (.cons (.idx (.var 2) (.int 0)) .nil)) .nil))))) .nil))) (.cons (.ret (.bl false)) .nil) .nil) (.cons (.ret (.call "are_rising" (S_are_rising c) (.cons (.lc [("one", 2)] (.name 2) (.seq (.var 0)) .none (.idx (.var 2) (.int 0))) .nil))) .nil)))
theorem cmpP_ss (x y : Str) : cmpP (.str x) (.str y) := ⟨rfl, rfl, by simp [py, PySem.W.alike], by simp [py], by simp [py, PyData.depth]⟩
theorem wp_are_called (c : Cs) {xs : List D} {most : Int} {M : Mp} {Q : DQ} (hz : xs.length ≤ sizeLine) (hl : (xs.length : Int) ≤ most) (hc : ∀ x ∈ xs, called x) (hr : risB (xs.map nameD) = true) (h : ∀ M', Keep M M' → Q (.bl true) M') : (ir_are_called c).wp (bodyEnds Q) [some (.tup xs), some (.int most), none] M := by
  simp only [ir_are_called, Ss.wp, S.wp, E.wp, E.wpT, Es.wp, Es.wpV, Es.wpT, Oe.wpO, Oe.wpT, Wk.wp, wSeq, wRet, wRetN, wNext, wNever, wDrop, wAsg, wIfS, wFor, wPar, wPar3, wFldS, wSetI, wSetK, wDnew, wMeth, wBm, wAndV, wOrV, wNotV, wAnd, wOr, wNot, wTest, wTru, wIf, w1, w2, w3, wVar, wC, wNil, wCons, wTup, wLst, wCall, wCallK, wO0, wO1, wSl, wLc, wISeq, wIR1, wIR2, wIZip, wIStr, wIEn, wDc, DcK.emp, Wk.wp, binF, cmpF, isaD, negD, Blt.spec, Bm.spec, Bm.ty, List.getElem?_cons_zero, List.getElem?_cons_succ, Option.some.injEq, exists_eq_left', exists_eq_left, exists_and_left, List.set_cons_zero, List.set_cons_succ, asn_name, asn_tup, asns_nil, asns_name, wipeD, tru_bl, tru_int, tru_non, tru_tup, bodyEnds, List.map_cons, List.map_nil, ↓reduceIte, Bool.false_eq_true, and_true, true_and, D.str.injEq, D.int.injEq, D.ref.injEq, D.tup.injEq, D.bl.injEq]
  refine ⟨true, rfl, ?_⟩
  simp only [Bool.not_true, Bool.false_eq_true, if_false]
  refine len_t (ord_int ⟨_, rfl, ?_⟩)
  have e : decide (most < (xs.length : Int)) = false := decide_eq_false (by omega)
  simp only [e, Bool.false_eq_true, if_false]
  refine ⟨_, seqT_t, hz, ?_⟩
  refine all_go (T := ⟨xs, fun _ => True⟩) (fun _ => true) (fun _ _ => trivial) (fun x hx M2 k h2 hkk => ⟨_, rfl, ?_⟩) fun M2 h2 => ?_
  · obtain ⟨nm, d, rfl, hn⟩ := hc x hx
    simp only [Ss.wp, S.wp, E.wp, E.wpT, Es.wp, Es.wpV, Es.wpT, Oe.wpO, Oe.wpT, Wk.wp, wSeq, wRet, wRetN, wNext, wNever, wDrop, wAsg, wIfS, wFor, wPar, wPar3, wFldS, wSetI, wSetK, wDnew, wMeth, wBm, wAndV, wOrV, wNotV, wAnd, wOr, wNot, wTest, wTru, wIf, w1, w2, w3, wVar, wC, wNil, wCons, wTup, wLst, wCall, wCallK, wO0, wO1, wSl, wLc, wISeq, wIR1, wIR2, wIZip, wIStr, wIEn, wDc, DcK.emp, Wk.wp, binF, cmpF, isaD, negD, Blt.spec, Bm.spec, Bm.ty, List.getElem?_cons_zero, List.getElem?_cons_succ, Option.some.injEq, exists_eq_left', exists_eq_left, exists_and_left, List.set_cons_zero, List.set_cons_succ, asn_name, asn_tup, asns_nil, asns_name, wipeD, tru_bl, tru_int, tru_non, tru_tup, bodyEnds, List.map_cons, List.map_nil, ↓reduceIte, Bool.false_eq_true, and_true, true_and, D.str.injEq, D.int.injEq, D.ref.injEq, D.tup.injEq, D.bl.injEq]
    refine ⟨true, rfl, ?_⟩
    simp only [if_true]
    refine len_t (eq_int ?_)
    simp only [Ss.wp, S.wp, E.wp, E.wpT, Es.wp, Es.wpV, Es.wpT, Oe.wpO, Oe.wpT, Wk.wp, wSeq, wRet, wRetN, wNext, wNever, wDrop, wAsg, wIfS, wFor, wPar, wPar3, wFldS, wSetI, wSetK, wDnew, wMeth, wBm, wAndV, wOrV, wNotV, wAnd, wOr, wNot, wTest, wTru, wIf, w1, w2, w3, wVar, wC, wNil, wCons, wTup, wLst, wCall, wCallK, wO0, wO1, wSl, wLc, wISeq, wIR1, wIR2, wIZip, wIStr, wIEn, wDc, DcK.emp, Wk.wp, binF, cmpF, isaD, negD, Blt.spec, Bm.spec, Bm.ty, List.getElem?_cons_zero, List.getElem?_cons_succ, Option.some.injEq, exists_eq_left', exists_eq_left, exists_and_left, List.set_cons_zero, List.set_cons_succ, asn_name, asn_tup, asns_nil, asns_name, wipeD, tru_bl, tru_int, tru_non, tru_tup, bodyEnds, List.map_cons, List.map_nil, ↓reduceIte, Bool.false_eq_true, and_true, true_and, D.str.injEq, D.int.injEq, D.ref.injEq, D.tup.injEq, D.bl.injEq, List.length_cons, List.length_nil]
    refine (if_pos (by simp)).mpr (ix_t 0 rfl ?_)
    refine ⟨_, rfl, kn_str, fun y e => by cases e; exact nameS_len hn, fun M3 h3 => ?_⟩
    have q := hkk M3 (h2.trans h3)
    simpa [isNm, hn] using q
  · simp only [Ss.wp, S.wp, E.wp, E.wpT, Es.wp, Es.wpV, Es.wpT, Oe.wpO, Oe.wpT, Wk.wp, wSeq, wRet, wRetN, wNext, wNever, wDrop, wAsg, wIfS, wFor, wPar, wPar3, wFldS, wSetI, wSetK, wDnew, wMeth, wBm, wAndV, wOrV, wNotV, wAnd, wOr, wNot, wTest, wTru, wIf, w1, w2, w3, wVar, wC, wNil, wCons, wTup, wLst, wCall, wCallK, wO0, wO1, wSl, wLc, wISeq, wIR1, wIR2, wIZip, wIStr, wIEn, wDc, DcK.emp, Wk.wp, binF, cmpF, isaD, negD, Blt.spec, Bm.spec, Bm.ty, List.getElem?_cons_zero, List.getElem?_cons_succ, Option.some.injEq, exists_eq_left', exists_eq_left, exists_and_left, List.set_cons_zero, List.set_cons_succ, asn_name, asn_tup, asns_nil, asns_name, wipeD, tru_bl, tru_int, tru_non, tru_tup, bodyEnds, List.map_cons, List.map_nil, ↓reduceIte, Bool.false_eq_true, and_true, true_and, D.str.injEq, D.int.injEq, D.ref.injEq, D.tup.injEq, D.bl.injEq, List.all_eq_true, implies_true]
    rw [show (xs.all fun _ => true) = true by simp]
    simp only [Bool.not_true, Bool.false_eq_true, if_false]
    refine ⟨_, seqT_t, hz, ?_⟩
    refine lcGo_map (T := ⟨xs, fun _ => True⟩) (M0 := M2) (fun x => some (nameD x)) (fun _ _ => trivial) xs M2 (.refl _) (fun x hx acc M3 k h3 hk => ⟨_, rfl, ?_⟩) fun M3 h3 p hp => ?_
    · obtain ⟨nm, d, rfl, hn⟩ := hc x hx
      refine yes_if ?_
      simp only [Ss.wp, S.wp, E.wp, E.wpT, Es.wp, Es.wpV, Es.wpT, Oe.wpO, Oe.wpT, Wk.wp, wSeq, wRet, wRetN, wNext, wNever, wDrop, wAsg, wIfS, wFor, wPar, wPar3, wFldS, wSetI, wSetK, wDnew, wMeth, wBm, wAndV, wOrV, wNotV, wAnd, wOr, wNot, wTest, wTru, wIf, w1, w2, w3, wVar, wC, wNil, wCons, wTup, wLst, wCall, wCallK, wO0, wO1, wSl, wLc, wISeq, wIR1, wIR2, wIZip, wIStr, wIEn, wDc, DcK.emp, Wk.wp, binF, cmpF, isaD, negD, Blt.spec, Bm.spec, Bm.ty, List.getElem?_cons_zero, List.getElem?_cons_succ, Option.some.injEq, exists_eq_left', exists_eq_left, exists_and_left, List.set_cons_zero, List.set_cons_succ, asn_name, asn_tup, asns_nil, asns_name, wipeD, tru_bl, tru_int, tru_non, tru_tup, bodyEnds, List.map_cons, List.map_nil, ↓reduceIte, Bool.false_eq_true, and_true, true_and, D.str.injEq, D.int.injEq, D.ref.injEq, D.tup.injEq, D.bl.injEq]
      exact ix_t 0 rfl (hk M3 h3)
    · rw [show xs.filterMap (fun x => some (nameD x)) = xs.map nameD by rw [List.filterMap_eq_map']]
      refine ⟨_, xs.map nameD, rfl, .inr ⟨p, rfl, up_same⟩, cmpL_of fun a ha b hb => ?_, fun M4 h4 => ?_⟩
      · obtain ⟨x, hx, rfl⟩ := List.mem_map.mp ha
        obtain ⟨y, hy, rfl⟩ := List.mem_map.mp hb
        obtain ⟨n1, d1, rfl, _⟩ := hc x hx
        obtain ⟨n2, d2, rfl, _⟩ := hc y hy
        exact cmpP_ss n1 n2
      · rw [hr]
        exact h M4 (h2.trans (h3.trans ((Keep.new hp).trans h4)))
/-! ### good values -/
structure RulesOk (many : Int) (xs : List D) : Prop where
  len : xs.length ≤ 3
  each : ∀ x ∈ xs, ∃ nm prs, x = .tup [.str nm, .tup prs] ∧ nameS nm = true ∧ (∀ p ∈ prs, isPr p 0 (many - 1) = true) ∧ risB prs = true
  rise : risB (xs.map nameD) = true
structure ListsOk (many : Int) (xs : List D) : Prop where
  len : xs.length ≤ 6
  each : ∀ x ∈ xs, ∃ nm ms, x = .tup [.str nm, .tup ms] ∧ nameS nm = true ∧ (∀ m ∈ ms, isWh m 0 (many - 1) = true) ∧ risB ms = true
  rise : risB (xs.map nameD) = true
theorem RulesOk.called {many : Int} {xs : List D} (h : RulesOk many xs) : ∀ x ∈ xs, DL.called x := fun x hx => by
  obtain ⟨nm, prs, e, hn, _⟩ := h.each x hx
  exact ⟨nm, _, e, hn⟩
theorem ListsOk.called {many : Int} {xs : List D} (h : ListsOk many xs) : ∀ x ∈ xs, DL.called x := fun x hx => by
  obtain ⟨nm, prs, e, hn, _⟩ := h.each x hx
  exact ⟨nm, _, e, hn⟩
theorem kns2_prs {prs : List D} {lo hi : Int} {M : Mp} (h : ∀ p ∈ prs, isPr p lo hi = true) : kns2 (.tup prs) M := by
  refine ⟨kn_tup, fun xs e x hx => ?_⟩
  cases e
  obtain ⟨i, j, rfl⟩ := isPr_ints (h x hx)
  refine ⟨kn_tup, fun ys e y hy => ?_⟩
  cases e
  rcases List.mem_cons.mp hy with rfl | hy
  · exact kn_int
  · obtain rfl := List.mem_singleton.mp hy
    exact kn_int
theorem kns_ms {ms : List D} {lo hi : Int} {M : Mp} (h : ∀ p ∈ ms, isWh p lo hi = true) : kns (.tup ms) M := by
  refine ⟨kn_tup, fun xs e x hx => ?_⟩
  cases e
  obtain ⟨i, rfl⟩ := isWh_int (h x hx)
  exact kn_int
theorem cmpL_ms {ms : List D} {lo hi : Int} (h : ∀ p ∈ ms, isWh p lo hi = true) : cmpL ms := cmpL_of fun x hx y hy => by
  obtain ⟨i, rfl⟩ := isWh_int (h x hx)
  obtain ⟨j, rfl⟩ := isWh_int (h y hy)
  exact ⟨rfl, rfl, by simp [py, PySem.W.alike], by simp [py], by simp [py, PyData.depth]⟩
/-! ### are_rules -/
def S_are_rules (_ : Cs) : Spec := fun ds M Q => ∃ xs many, ds = [.tup xs, .int many] ∧ RulesOk many xs ∧ ∀ M', Keep M M' → Q (.bl true) M'
abbrev N_are_rules : List Str := ["thing", "many", "name", "pairs"]
def ir_are_rules (c : Cs) : Ss := (.cons (.ret (.bop .And (.cons (.call "are_called" (S_are_called c) (.cons (.var 0) (.cons (.glob "MOST_RULES" (.int 3)) .nil))) (.cons (.bcall .all (.cons (.lc [("name", 2), ("pairs", 3)] (.tup (.cons (.name 2) (.cons (.name 3) .nil))) (.seq (.var 0)) .none (.call "are_pairs" (S_are_pairs c) (.cons (.var 3) (.cons (.int 0) (.cons (.bin .Sub (.var 1) (.int 1)) .nil))))) .nil)) .nil)))) .nil)
theorem wp_are_rules (c : Cs) {xs : List D} {many : Int} {M : Mp} {Q : DQ} (ok : RulesOk many xs) (h : ∀ M', Keep M M' → Q (.bl true) M') : (ir_are_rules c).wp (bodyEnds Q) [some (.tup xs), some (.int many), none, none] M := by
  have hz : xs.length ≤ sizeLine := by have := ok.len; rw [sizeLine_eq]; omega
  simp only [ir_are_rules, Ss.wp, S.wp, E.wp, E.wpT, Es.wp, Es.wpV, Es.wpT, Oe.wpO, Oe.wpT, Wk.wp, wSeq, wRet, wRetN, wNext, wNever, wDrop, wAsg, wIfS, wFor, wPar, wPar3, wFldS, wSetI, wSetK, wDnew, wMeth, wBm, wAndV, wOrV, wNotV, wAnd, wOr, wNot, wTest, wTru, wIf, w1, w2, w3, wVar, wC, wNil, wCons, wTup, wLst, wCall, wCallK, wO0, wO1, wSl, wLc, wISeq, wIR1, wIR2, wIZip, wIStr, wIEn, wDc, DcK.emp, Wk.wp, binF, cmpF, isaD, negD, Blt.spec, Bm.spec, Bm.ty, List.getElem?_cons_zero, List.getElem?_cons_succ, Option.some.injEq, exists_eq_left', exists_eq_left, exists_and_left, List.set_cons_zero, List.set_cons_succ, asn_name, asn_tup, asns_nil, asns_name, wipeD, tru_bl, tru_int, tru_non, tru_tup, bodyEnds, List.map_cons, List.map_nil, ↓reduceIte, Bool.false_eq_true, and_true, true_and, D.str.injEq, D.int.injEq, D.ref.injEq, D.tup.injEq, D.bl.injEq]
  refine ⟨xs, 3, rfl, by have := ok.len; omega, ok.called, ok.rise, fun M1 h1 => ?_⟩
  simp only [Ss.wp, S.wp, E.wp, E.wpT, Es.wp, Es.wpV, Es.wpT, Oe.wpO, Oe.wpT, Wk.wp, wSeq, wRet, wRetN, wNext, wNever, wDrop, wAsg, wIfS, wFor, wPar, wPar3, wFldS, wSetI, wSetK, wDnew, wMeth, wBm, wAndV, wOrV, wNotV, wAnd, wOr, wNot, wTest, wTru, wIf, w1, w2, w3, wVar, wC, wNil, wCons, wTup, wLst, wCall, wCallK, wO0, wO1, wSl, wLc, wISeq, wIR1, wIR2, wIZip, wIStr, wIEn, wDc, DcK.emp, Wk.wp, binF, cmpF, isaD, negD, Blt.spec, Bm.spec, Bm.ty, List.getElem?_cons_zero, List.getElem?_cons_succ, Option.some.injEq, exists_eq_left', exists_eq_left, exists_and_left, List.set_cons_zero, List.set_cons_succ, asn_name, asn_tup, asns_nil, asns_name, wipeD, tru_bl, tru_int, tru_non, tru_tup, bodyEnds, List.map_cons, List.map_nil, ↓reduceIte, Bool.false_eq_true, and_true, true_and, D.str.injEq, D.int.injEq, D.ref.injEq, D.tup.injEq, D.bl.injEq]
  refine ⟨_, seqT_t, hz, ?_⟩
  refine all_go (T := ⟨xs, fun _ => True⟩) (fun _ => true) (fun _ _ => trivial) (fun x hx M2 k h2 hkk => ?_) fun M2 h2 => ?_
  · obtain ⟨nm, prs, rfl, hn, hp, hr⟩ := ok.each x hx
    refine ⟨_, rfl, ?_⟩
    simp only [Ss.wp, S.wp, E.wp, E.wpT, Es.wp, Es.wpV, Es.wpT, Oe.wpO, Oe.wpT, Wk.wp, wSeq, wRet, wRetN, wNext, wNever, wDrop, wAsg, wIfS, wFor, wPar, wPar3, wFldS, wSetI, wSetK, wDnew, wMeth, wBm, wAndV, wOrV, wNotV, wAnd, wOr, wNot, wTest, wTru, wIf, w1, w2, w3, wVar, wC, wNil, wCons, wTup, wLst, wCall, wCallK, wO0, wO1, wSl, wLc, wISeq, wIR1, wIR2, wIZip, wIStr, wIEn, wDc, DcK.emp, Wk.wp, binF, cmpF, isaD, negD, Blt.spec, Bm.spec, Bm.ty, List.getElem?_cons_zero, List.getElem?_cons_succ, Option.some.injEq, exists_eq_left', exists_eq_left, exists_and_left, List.set_cons_zero, List.set_cons_succ, asn_name, asn_tup, asns_nil, asns_name, wipeD, tru_bl, tru_int, tru_non, tru_tup, bodyEnds, List.map_cons, List.map_nil, ↓reduceIte, Bool.false_eq_true, and_true, true_and, D.str.injEq, D.int.injEq, D.ref.injEq, D.tup.injEq, D.bl.injEq]
    refine ⟨many, 1, rfl, rfl, trivial, _, 0, many - 1, rfl, kns2_prs hp, fun M3 h3 => ?_⟩
    have e : arePr (.tup prs) 0 (many - 1) = true := by
      show ((prs.all fun x => isPr x 0 (many - 1)) && risB prs) = true
      rw [hr, Bool.and_true]
      exact List.all_eq_true.mpr hp
    rw [e]
    exact hkk M3 (h2.trans h3)
  · rw [show (xs.all fun _ => true) = true by simp]
    exact h M2 (h1.trans h2)
/-! ### are_lists -/
def S_are_lists (_ : Cs) : Spec := fun ds M Q => ∃ xs many, ds = [.tup xs, .int many] ∧ ListsOk many xs ∧ ∀ M', Keep M M' → Q (.bl true) M'
abbrev N_are_lists : List Str := ["thing", "many", "name", "marks"]
def ir_are_lists (c : Cs) : Ss := (.cons (.ife (.not_ (.call "are_called" (S_are_called c) (.cons (.var 0) (.cons (.glob "MOST_LISTS" (.int 6)) .nil)))) (.cons (.ret (.bl false)) .nil) .nil) (.cons (.ret (.bcall .all (.cons (.lc [("name", 2), ("marks", 3)] (.tup (.cons (.name 2) (.cons (.name 3) .nil))) (.seq (.var 0)) .none (.bop .And (.cons (.call "are_whole" (S_are_whole c) (.cons (.var 3) (.cons (.int 0) (.cons (.bin .Sub (.var 1) (.int 1)) .nil)))) (.cons (.call "are_rising" (S_are_rising c) (.cons (.var 3) .nil)) .nil)))) .nil))) .nil))
theorem wp_are_lists (c : Cs) {xs : List D} {many : Int} {M : Mp} {Q : DQ} (ok : ListsOk many xs) (h : ∀ M', Keep M M' → Q (.bl true) M') : (ir_are_lists c).wp (bodyEnds Q) [some (.tup xs), some (.int many), none, none] M := by
  have hz : xs.length ≤ sizeLine := by have := ok.len; rw [sizeLine_eq]; omega
  simp only [ir_are_lists, Ss.wp, S.wp, E.wp, E.wpT, Es.wp, Es.wpV, Es.wpT, Oe.wpO, Oe.wpT, Wk.wp, wSeq, wRet, wRetN, wNext, wNever, wDrop, wAsg, wIfS, wFor, wPar, wPar3, wFldS, wSetI, wSetK, wDnew, wMeth, wBm, wAndV, wOrV, wNotV, wAnd, wOr, wNot, wTest, wTru, wIf, w1, w2, w3, wVar, wC, wNil, wCons, wTup, wLst, wCall, wCallK, wO0, wO1, wSl, wLc, wISeq, wIR1, wIR2, wIZip, wIStr, wIEn, wDc, DcK.emp, Wk.wp, binF, cmpF, isaD, negD, Blt.spec, Bm.spec, Bm.ty, List.getElem?_cons_zero, List.getElem?_cons_succ, Option.some.injEq, exists_eq_left', exists_eq_left, exists_and_left, List.set_cons_zero, List.set_cons_succ, asn_name, asn_tup, asns_nil, asns_name, wipeD, tru_bl, tru_int, tru_non, tru_tup, bodyEnds, List.map_cons, List.map_nil, ↓reduceIte, Bool.false_eq_true, and_true, true_and, D.str.injEq, D.int.injEq, D.ref.injEq, D.tup.injEq, D.bl.injEq]
  refine ⟨xs, 6, rfl, by have := ok.len; omega, ok.called, ok.rise, fun M1 h1 => ?_⟩
  simp only [Ss.wp, S.wp, E.wp, E.wpT, Es.wp, Es.wpV, Es.wpT, Oe.wpO, Oe.wpT, Wk.wp, wSeq, wRet, wRetN, wNext, wNever, wDrop, wAsg, wIfS, wFor, wPar, wPar3, wFldS, wSetI, wSetK, wDnew, wMeth, wBm, wAndV, wOrV, wNotV, wAnd, wOr, wNot, wTest, wTru, wIf, w1, w2, w3, wVar, wC, wNil, wCons, wTup, wLst, wCall, wCallK, wO0, wO1, wSl, wLc, wISeq, wIR1, wIR2, wIZip, wIStr, wIEn, wDc, DcK.emp, Wk.wp, binF, cmpF, isaD, negD, Blt.spec, Bm.spec, Bm.ty, List.getElem?_cons_zero, List.getElem?_cons_succ, Option.some.injEq, exists_eq_left', exists_eq_left, exists_and_left, List.set_cons_zero, List.set_cons_succ, asn_name, asn_tup, asns_nil, asns_name, wipeD, tru_bl, tru_int, tru_non, tru_tup, bodyEnds, List.map_cons, List.map_nil, ↓reduceIte, Bool.false_eq_true, and_true, true_and, D.str.injEq, D.int.injEq, D.ref.injEq, D.tup.injEq, D.bl.injEq, Bool.not_true]
  refine ⟨_, seqT_t, hz, ?_⟩
  refine all_go (T := ⟨xs, fun _ => True⟩) (fun _ => true) (fun _ _ => trivial) (fun x hx M2 k h2 hkk => ?_) fun M2 h2 => ?_
  · obtain ⟨nm, ms, rfl, hn, hp, hr⟩ := ok.each x hx
    refine ⟨_, rfl, ?_⟩
    simp only [Ss.wp, S.wp, E.wp, E.wpT, Es.wp, Es.wpV, Es.wpT, Oe.wpO, Oe.wpT, Wk.wp, wSeq, wRet, wRetN, wNext, wNever, wDrop, wAsg, wIfS, wFor, wPar, wPar3, wFldS, wSetI, wSetK, wDnew, wMeth, wBm, wAndV, wOrV, wNotV, wAnd, wOr, wNot, wTest, wTru, wIf, w1, w2, w3, wVar, wC, wNil, wCons, wTup, wLst, wCall, wCallK, wO0, wO1, wSl, wLc, wISeq, wIR1, wIR2, wIZip, wIStr, wIEn, wDc, DcK.emp, Wk.wp, binF, cmpF, isaD, negD, Blt.spec, Bm.spec, Bm.ty, List.getElem?_cons_zero, List.getElem?_cons_succ, Option.some.injEq, exists_eq_left', exists_eq_left, exists_and_left, List.set_cons_zero, List.set_cons_succ, asn_name, asn_tup, asns_nil, asns_name, wipeD, tru_bl, tru_int, tru_non, tru_tup, bodyEnds, List.map_cons, List.map_nil, ↓reduceIte, Bool.false_eq_true, and_true, true_and, D.str.injEq, D.int.injEq, D.ref.injEq, D.tup.injEq, D.bl.injEq]
    refine ⟨many, 1, rfl, rfl, trivial, _, 0, many - 1, rfl, kns_ms hp, fun M3 h3 => ?_⟩
    have e : areWh (.tup ms) 0 (many - 1) = true := List.all_eq_true.mpr hp
    rw [e]
    simp only [Ss.wp, S.wp, E.wp, E.wpT, Es.wp, Es.wpV, Es.wpT, Oe.wpO, Oe.wpT, Wk.wp, wSeq, wRet, wRetN, wNext, wNever, wDrop, wAsg, wIfS, wFor, wPar, wPar3, wFldS, wSetI, wSetK, wDnew, wMeth, wBm, wAndV, wOrV, wNotV, wAnd, wOr, wNot, wTest, wTru, wIf, w1, w2, w3, wVar, wC, wNil, wCons, wTup, wLst, wCall, wCallK, wO0, wO1, wSl, wLc, wISeq, wIR1, wIR2, wIZip, wIStr, wIEn, wDc, DcK.emp, Wk.wp, binF, cmpF, isaD, negD, Blt.spec, Bm.spec, Bm.ty, List.getElem?_cons_zero, List.getElem?_cons_succ, Option.some.injEq, exists_eq_left', exists_eq_left, exists_and_left, List.set_cons_zero, List.set_cons_succ, asn_name, asn_tup, asns_nil, asns_name, wipeD, tru_bl, tru_int, tru_non, tru_tup, bodyEnds, List.map_cons, List.map_nil, ↓reduceIte, Bool.false_eq_true, and_true, true_and, D.str.injEq, D.int.injEq, D.ref.injEq, D.tup.injEq, D.bl.injEq]
    refine ⟨_, ms, rfl, .inl rfl, cmpL_ms hp, fun M4 h4 => ?_⟩
    rw [hr]
    exact hkk M4 (h2.trans (h3.trans h4))
  · rw [show (xs.all fun _ => true) = true by simp]
    exact h M2 (h1.trans h2)
/-! ### House -/
/-- dict comprehensions by an invariant -/
theorem dcGo_inv {T : DIt} {g : Tg} {wt : WT} {wk wv : WE} {ρ : Ro} {fin : MO → Mp → Prop} (J : List D → MO → Mp → Prop) (keep : ∀ done acc M, J done acc M → T.keep M) : ∀ (todo done : List D) (acc : MO) (M : Mp), J done acc M →
    (∀ x pre post, todo = pre ++ x :: post → ∀ acc M (k : MO → Mp → Prop), J (done ++ pre) acc M → (∀ acc' M', J (done ++ pre ++ [x]) acc' M' → k acc' M') → ∃ ρ1, g.asn x ρ = some ρ1 ∧ wt ρ1 M fun b M1 => if b = true then wk ρ1 M1 fun kd M2 => wv ρ1 M2 fun vd M3 => ∃ acc', dput kd vd acc = some acc' ∧ k acc' M3 else k acc M1) →
    (∀ acc M, J (done ++ todo) acc M → fin acc M) → dcGo T g wt wk wv ρ fin todo acc M
  | [], done, acc, M, h, _, hf => by
    unfold dcGo
    exact ⟨keep _ _ _ h, hf acc M (by rw [List.append_nil]; exact h)⟩
  | x :: xs, done, acc, M, h, hs, hf => by
    unfold dcGo
    refine ⟨keep _ _ _ h, hs x [] xs rfl acc M (fun acc' M' => dcGo T g wt wk wv ρ fin xs acc' M') (by rw [List.append_nil]; exact h) fun acc' M' h' => ?_⟩
    rw [List.append_nil] at h'
    refine dcGo_inv J keep xs (done ++ [x]) acc' M' h' (fun y pre post e => ?_) fun acc M h => hf acc M (by rw [List.append_assoc] at h; exact h)
    have := hs y (x :: pre) post (by rw [e]; rfl)
    simpa [List.append_assoc] using this
theorem lt_irr (x : D) : ltP x x = false := by
  unfold ltP PySem.W.dataLt
  exact PyProof.Rows.lex_irrefl _
theorem lt_trans' {x y z : D} (h1 : ltP x y = true) (h2 : ltP y z = true) : ltP x z = true := PyProof.Rows.lex_trans _ _ _ h1 h2
theorem ris_pair : ∀ {xs : List D}, risB xs = true → xs.Pairwise fun x y => ltP x y = true
  | [], _ => .nil
  | [x], _ => .cons (fun y hy => by cases hy) .nil
  | x :: y :: r, h => by
    unfold risB at h
    rw [Bool.and_eq_true] at h
    have ih := ris_pair h.2
    refine .cons (fun z hz => ?_) ih
    rcases List.mem_cons.mp hz with rfl | hz
    · exact h.1
    · exact lt_trans' h.1 (List.rel_of_pairwise_cons ih hz)
theorem ris_nodup {xs : List D} (h : risB xs = true) : xs.Nodup := (ris_pair h).imp fun {a b} q e => by subst e; rw [lt_irr] at q; cases q
theorem dc_k {T : DIt} {g : Tg} {wk wv : WE} {ρ : Ro} {M : Mp} {fin : MO → Mp → Prop} (kf : D → Key) (nd : (T.items.map kf).Nodup) (keep : ∀ M2, Keep M M2 → T.keep M2)
    (hs : ∀ x ∈ T.items, ∀ M2 (k : D → D → Mp → Prop), Keep M M2 → (∀ kd vd M3, keyD kd = some (kf x) → Keep M M3 → k kd vd M3) → ∃ ρ1, g.asn x ρ = some ρ1 ∧ wk ρ1 M2 fun kd M3 => wv ρ1 M3 fun vd M4 => k kd vd M4)
    (hf : ∀ kvs M2, Keep M M2 → kvs.map (·.1) = T.items.map kf → fin (.dK kvs) M2) : dcGo T g wYes wk wv ρ fin T.items (.dK []) M := by
  refine dcGo_inv (fun done acc M2 => Keep M M2 ∧ ∃ kvs, acc = .dK kvs ∧ kvs.map (·.1) = done.map kf) (fun _ _ M2 h => keep M2 h.1) T.items [] (.dK []) M ⟨.refl M, [], rfl, rfl⟩ (fun x pre post e acc M2 k h hk => ?_) fun acc M2 h => ?_
  · obtain ⟨h2, kvs, rfl, ek⟩ := h
    obtain ⟨ρ1, e1, w1⟩ := hs x (by rw [e]; simp) M2 (fun kd vd M4 => ∃ acc', dput kd vd (.dK kvs) = some acc' ∧ k acc' M4) h2 fun kd vd M3 ekd h3 => by
      have hn : kf x ∉ kvs.map (·.1) := by
        rw [ek]
        intro hm
        rw [e, List.map_append, List.map_cons] at nd
        exact (List.nodup_append.mp nd).2.2 _ (by simpa using hm) _ List.mem_cons_self rfl
      refine ⟨.dK (kvs ++ [(kf x, vd)]), ?_, hk _ M3 ⟨h3, _, rfl, ?_⟩⟩
      · unfold dput
        simp only [ekd, if_neg hn]
      · rw [List.map_append, ek]; simp
    exact ⟨ρ1, e1, yes_if w1⟩
  · obtain ⟨h2, kvs, rfl, ek⟩ := h
    exact hf kvs M2 h2 ek
theorem dc_t {T : DIt} {g : Tg} {wk wv : WE} {ρ : Ro} {M : Mp} {P : Program} {w : World} {fin : MO → Mp → Prop} (kf : D → List Key) (nd : (T.items.map kf).Nodup) (keep : ∀ M2, Keep M M2 → T.keep M2)
    (hs : ∀ x ∈ T.items, ∀ M2 (k : D → D → Mp → Prop), Keep M M2 → (∀ ds vd M3, keysD ds = some (kf x) → Keep M M3 → k (.tup ds) vd M3) → ∃ ρ1, g.asn x ρ = some ρ1 ∧ wk ρ1 M2 fun kd M3 => wv ρ1 M3 fun vd M4 => k kd vd M4)
    (hf : ∀ kvs M2, Keep M M2 → kvs.map (·.1) = T.items.map kf → fin (.dX P w kvs) M2) : dcGo T g wYes wk wv ρ fin T.items (.dX P w []) M := by
  refine dcGo_inv (fun done acc M2 => Keep M M2 ∧ ∃ kvs, acc = .dX P w kvs ∧ kvs.map (·.1) = done.map kf) (fun _ _ M2 h => keep M2 h.1) T.items [] (.dX P w []) M ⟨.refl M, [], rfl, rfl⟩ (fun x pre post e acc M2 k h hk => ?_) fun acc M2 h => ?_
  · obtain ⟨h2, kvs, rfl, ek⟩ := h
    obtain ⟨ρ1, e1, w1⟩ := hs x (by rw [e]; simp) M2 (fun kd vd M4 => ∃ acc', dput kd vd (.dX P w kvs) = some acc' ∧ k acc' M4) h2 fun ds vd M3 ekd h3 => by
      have hn : kf x ∉ kvs.map (·.1) := by
        rw [ek]
        intro hm
        rw [e, List.map_append, List.map_cons] at nd
        exact (List.nodup_append.mp nd).2.2 _ (by simpa using hm) _ List.mem_cons_self rfl
      refine ⟨.dX P w (kvs ++ [(kf x, vd)]), ?_, hk _ M3 ⟨h3, _, rfl, ?_⟩⟩
      · unfold dput
        simp only [ekd, if_neg hn]
      · rw [List.map_append, ek]; simp
    exact ⟨ρ1, e1, yes_if w1⟩
  · obtain ⟨h2, kvs, rfl, ek⟩ := h
    exact hf kvs M2 h2 ek
def S_House_init (c : Cs) : Spec := fun ds M Q => ∃ p many rs ls, ds = [.ref p, .int many, .tup rs, .tup ls] ∧ M p = some (.ins c.House []) ∧ 1 ≤ many ∧ many ≤ 4 ∧ RulesOk many rs ∧ ListsOk many ls ∧
  ∀ M' d1 d2, (∀ a o, a ≠ p → M a = some o → M' a = some o) → M' p = some (.ins c.House [("many", .int many), ("rules", .tup rs), ("lists", .tup ls), ("pairs_by", .ref d1), ("marks_by", .ref d2)]) → Q .non M'
abbrev N_House_init : List Str := ["self", "many", "rules", "lists", "pair", "name", "pairs", "mark", "marks"]
def ir_House_init (c : Cs) : Ss := (.cons (.ife (.not_ (.call "is_whole" (S_is_whole c) (.cons (.var 1) (.cons (.int 1) (.cons (.glob "MOST_MARKS" (.int 4)) .nil))))) (.cons .never .nil) .nil) (.cons (.ife (.not_ (.call "are_rules" (S_are_rules c) (.cons (.var 2) (.cons (.var 1) .nil)))) (.cons .never .nil) .nil) (.cons (.ife (.not_ (.call "are_lists" (S_are_lists c) (.cons (.var 3) (.cons (.var 1) .nil)))) (.cons .never .nil) .nil) (.cons (.fld (.var 0) c.House "many" (.var 1)) (.cons (.fld (.var 0) c.House "rules" (.var 2)) (.cons (.fld (.var 0) c.House "lists" (.var 3)) (.cons (.fld (.var 0) c.House "pairs_by" (.dc .k [("name", 5), ("pairs", 6)] (.tup (.cons (.name 5) (.cons (.name 6) .nil))) (.seq (.var 2)) .none (.var 5) (.dc (.t c.P c.w) [("pair", 4)] (.name 4) (.seq (.var 6)) .none (.var 4) (.bl true)))) (.cons (.fld (.var 0) c.House "marks_by" (.dc .k [("name", 5), ("marks", 8)] (.tup (.cons (.name 5) (.cons (.name 8) .nil))) (.seq (.var 3)) .none (.var 5) (.dc .k [("mark", 7)] (.name 7) (.seq (.var 8)) .none (.var 7) (.bl true)))) .nil))))))))
def kName (x : D) : Key := match nameD x with
  | .str nm => .inr nm
  | _ => .inl 0
def kPair (x : D) : List Key := match x with
  | .tup [.int i, .int j] => [.inl i, .inl j]
  | _ => []
def kMark (x : D) : Key := match x with
  | .int i => .inl i
  | _ => .inr ""
theorem nodup_on {α β : Type} {f : α → β} : ∀ {xs : List α}, xs.Nodup → (∀ x ∈ xs, ∀ y ∈ xs, f x = f y → x = y) → (xs.map f).Nodup
  | [], _, _ => .nil
  | x :: xs, h, hi => by
    rw [List.map_cons]
    rw [List.nodup_cons] at h ⊢
    refine ⟨fun hm => ?_, nodup_on h.2 fun a ha b hb => hi a (List.mem_cons_of_mem _ ha) b (List.mem_cons_of_mem _ hb)⟩
    obtain ⟨y, hy, e⟩ := List.mem_map.mp hm
    have := hi y (List.mem_cons_of_mem _ hy) x List.mem_cons_self e
    subst this
    exact h.1 hy
theorem names_nodup {xs : List D} (hc : ∀ x ∈ xs, called x) (hr : risB (xs.map nameD) = true) : (xs.map kName).Nodup := by
  have h := ris_nodup hr
  have e : xs.map kName = (xs.map nameD).map fun d => match d with | .str nm => (.inr nm : Key) | _ => .inl 0 := by rw [List.map_map]; rfl
  rw [e]
  refine nodup_on h fun a ha b hb e => ?_
  obtain ⟨x, hx, rfl⟩ := List.mem_map.mp ha
  obtain ⟨y, hy, rfl⟩ := List.mem_map.mp hb
  obtain ⟨n1, d1, rfl, _⟩ := hc x hx
  obtain ⟨n2, d2, rfl, _⟩ := hc y hy
  have e' : (Sum.inr n1 : Key) = Sum.inr n2 := e
  injection e' with e'
  show D.str n1 = D.str n2
  rw [e']
theorem pairs_nodup {prs : List D} {lo hi : Int} (hp : ∀ p ∈ prs, isPr p lo hi = true) (hr : risB prs = true) : (prs.map kPair).Nodup := by
  refine nodup_on (ris_nodup hr) fun a ha b hb e => ?_
  obtain ⟨i, j, rfl⟩ := isPr_ints (hp a ha)
  obtain ⟨i', j', rfl⟩ := isPr_ints (hp b hb)
  have e' : ([Sum.inl i, Sum.inl j] : List Key) = [Sum.inl i', Sum.inl j'] := e
  injection e' with e1 e2
  injection e2 with e2 _
  injection e1 with e1
  injection e2 with e2
  rw [e1, e2]
theorem marks_nodup {ms : List D} {lo hi : Int} (hp : ∀ p ∈ ms, isWh p lo hi = true) (hr : risB ms = true) : (ms.map kMark).Nodup := by
  refine nodup_on (ris_nodup hr) fun a ha b hb e => ?_
  obtain ⟨i, rfl⟩ := isWh_int (hp a ha)
  obtain ⟨i', rfl⟩ := isWh_int (hp b hb)
  have e' : (Sum.inl i : Key) = Sum.inl i' := e
  injection e' with e1
  rw [e1]
theorem sz_pair {x y : D} (h : sz (.tup [x, y])) : sz y := (sz_tup h).2 y (by simp)
theorem put_many {a : D} : putD ("many" : Str) a ([] : List (Str × D)) = ([("many", a)] : List (Str × D)) := rfl
theorem put_rules {a b : D} : putD ("rules" : Str) b ([("many", a)] : List (Str × D)) = ([("many", a), ("rules", b)] : List (Str × D)) := by
  unfold putD
  rw [if_neg (by decide +kernel)]
  rfl
theorem put_lists {a b d : D} : putD ("lists" : Str) d ([("many", a), ("rules", b)] : List (Str × D)) = ([("many", a), ("rules", b), ("lists", d)] : List (Str × D)) := by
  unfold putD
  rw [if_neg (by decide +kernel)]
  unfold putD
  rw [if_neg (by decide +kernel)]
  rfl
theorem put_pairs_by {a b d e : D} : putD ("pairs_by" : Str) e ([("many", a), ("rules", b), ("lists", d)] : List (Str × D)) = ([("many", a), ("rules", b), ("lists", d), ("pairs_by", e)] : List (Str × D)) := by
  unfold putD
  rw [if_neg (by decide +kernel)]
  unfold putD
  rw [if_neg (by decide +kernel)]
  unfold putD
  rw [if_neg (by decide +kernel)]
  rfl
theorem put_marks_by {a b d e f : D} : putD ("marks_by" : Str) f ([("many", a), ("rules", b), ("lists", d), ("pairs_by", e)] : List (Str × D)) = ([("many", a), ("rules", b), ("lists", d), ("pairs_by", e), ("marks_by", f)] : List (Str × D)) := by
  unfold putD
  rw [if_neg (by decide +kernel)]
  unfold putD
  rw [if_neg (by decide +kernel)]
  unfold putD
  rw [if_neg (by decide +kernel)]
  unfold putD
  rw [if_neg (by decide +kernel)]
  rfl
theorem wp_House_init (c : Cs) {p : Addr} {many : Int} {rs ls : List D} {M : Mp} {Q : DQ} (zr : sz (.tup rs)) (zl : sz (.tup ls)) (hp : M p = some (.ins c.House [])) (m1 : 1 ≤ many) (m2 : many ≤ 4) (hr : RulesOk many rs) (hl : ListsOk many ls)
    (h : ∀ M' d1 d2, (∀ a o, a ≠ p → M a = some o → M' a = some o) → M' p = some (.ins c.House [("many", .int many), ("rules", .tup rs), ("lists", .tup ls), ("pairs_by", .ref d1), ("marks_by", .ref d2)]) → Q .non M') :
    (ir_House_init c).wp (bodyEnds Q) [some (.ref p), some (.int many), some (.tup rs), some (.tup ls), none, none, none, none, none] M := by
  simp only [ir_House_init, Ss.wp, S.wp, E.wp, E.wpT, Es.wp, Es.wpV, Es.wpT, Oe.wpO, Oe.wpT, Wk.wp, wSeq, wRet, wRetN, wNext, wNever, wDrop, wAsg, wIfS, wFor, wPar, wPar3, wFldS, wSetI, wSetK, wDnew, wMeth, wBm, wAndV, wOrV, wNotV, wAnd, wOr, wNot, wTest, wTru, wIf, w1, w2, w3, wVar, wC, wNil, wCons, wTup, wLst, wCall, wCallK, wO0, wO1, wSl, wLc, wISeq, wIR1, wIR2, wIZip, wIStr, wIEn, wDc, DcK.emp, Wk.wp, binF, cmpF, isaD, negD, Blt.spec, Bm.spec, Bm.ty, List.getElem?_cons_zero, List.getElem?_cons_succ, Option.some.injEq, exists_eq_left', exists_eq_left, exists_and_left, List.set_cons_zero, List.set_cons_succ, asn_name, asn_tup, asns_nil, asns_name, wipeD, tru_bl, tru_int, tru_non, tru_tup, bodyEnds, List.map_cons, List.map_nil, ↓reduceIte, Bool.false_eq_true, and_true, true_and, D.str.injEq, D.int.injEq, D.ref.injEq, D.tup.injEq, D.bl.injEq]
  refine ⟨_, 1, 4, rfl, kn_int, ?_⟩
  have e1 : isWh (.int many) 1 4 = true := by simp [isWh, m1, m2]
  simp only [e1, Ss.wp, S.wp, E.wp, E.wpT, Es.wp, Es.wpV, Es.wpT, Oe.wpO, Oe.wpT, Wk.wp, wSeq, wRet, wRetN, wNext, wNever, wDrop, wAsg, wIfS, wFor, wPar, wPar3, wFldS, wSetI, wSetK, wDnew, wMeth, wBm, wAndV, wOrV, wNotV, wAnd, wOr, wNot, wTest, wTru, wIf, w1, w2, w3, wVar, wC, wNil, wCons, wTup, wLst, wCall, wCallK, wO0, wO1, wSl, wLc, wISeq, wIR1, wIR2, wIZip, wIStr, wIEn, wDc, DcK.emp, Wk.wp, binF, cmpF, isaD, negD, Blt.spec, Bm.spec, Bm.ty, List.getElem?_cons_zero, List.getElem?_cons_succ, Option.some.injEq, exists_eq_left', exists_eq_left, exists_and_left, List.set_cons_zero, List.set_cons_succ, asn_name, asn_tup, asns_nil, asns_name, wipeD, tru_bl, tru_int, tru_non, tru_tup, bodyEnds, List.map_cons, List.map_nil, ↓reduceIte, Bool.false_eq_true, and_true, true_and, D.str.injEq, D.int.injEq, D.ref.injEq, D.tup.injEq, D.bl.injEq, Bool.not_true]
  refine ⟨rs, many, rfl, hr, fun M1 k1 => ?_⟩
  simp only [Ss.wp, S.wp, E.wp, E.wpT, Es.wp, Es.wpV, Es.wpT, Oe.wpO, Oe.wpT, Wk.wp, wSeq, wRet, wRetN, wNext, wNever, wDrop, wAsg, wIfS, wFor, wPar, wPar3, wFldS, wSetI, wSetK, wDnew, wMeth, wBm, wAndV, wOrV, wNotV, wAnd, wOr, wNot, wTest, wTru, wIf, w1, w2, w3, wVar, wC, wNil, wCons, wTup, wLst, wCall, wCallK, wO0, wO1, wSl, wLc, wISeq, wIR1, wIR2, wIZip, wIStr, wIEn, wDc, DcK.emp, Wk.wp, binF, cmpF, isaD, negD, Blt.spec, Bm.spec, Bm.ty, List.getElem?_cons_zero, List.getElem?_cons_succ, Option.some.injEq, exists_eq_left', exists_eq_left, exists_and_left, List.set_cons_zero, List.set_cons_succ, asn_name, asn_tup, asns_nil, asns_name, wipeD, tru_bl, tru_int, tru_non, tru_tup, bodyEnds, List.map_cons, List.map_nil, ↓reduceIte, Bool.false_eq_true, and_true, true_and, D.str.injEq, D.int.injEq, D.ref.injEq, D.tup.injEq, D.bl.injEq, Bool.not_true]
  refine ⟨ls, many, rfl, hl, fun M2 k2 => ?_⟩
  simp only [Ss.wp, S.wp, E.wp, E.wpT, Es.wp, Es.wpV, Es.wpT, Oe.wpO, Oe.wpT, Wk.wp, wSeq, wRet, wRetN, wNext, wNever, wDrop, wAsg, wIfS, wFor, wPar, wPar3, wFldS, wSetI, wSetK, wDnew, wMeth, wBm, wAndV, wOrV, wNotV, wAnd, wOr, wNot, wTest, wTru, wIf, w1, w2, w3, wVar, wC, wNil, wCons, wTup, wLst, wCall, wCallK, wO0, wO1, wSl, wLc, wISeq, wIR1, wIR2, wIZip, wIStr, wIEn, wDc, DcK.emp, Wk.wp, binF, cmpF, isaD, negD, Blt.spec, Bm.spec, Bm.ty, List.getElem?_cons_zero, List.getElem?_cons_succ, Option.some.injEq, exists_eq_left', exists_eq_left, exists_and_left, List.set_cons_zero, List.set_cons_succ, asn_name, asn_tup, asns_nil, asns_name, wipeD, tru_bl, tru_int, tru_non, tru_tup, bodyEnds, List.map_cons, List.map_nil, ↓reduceIte, Bool.false_eq_true, and_true, true_and, D.str.injEq, D.int.injEq, D.ref.injEq, D.tup.injEq, D.bl.injEq, Bool.not_true]
  have hp2 : M2 p = some (.ins c.House []) := k2 _ _ (k1 _ _ hp)
  refine ⟨_, hp2, by simp, _, up_same, by rw [put_many]; simp, _, up_same, by rw [put_many, put_rules]; simp, _, seqT_t, (sz_tup zr).1, ?_⟩
  rw [put_many, put_rules, put_lists]
  generalize hM3 : up (up (up M2 p _) p _) p _ = M3
  have p3 : M3 p = some (.ins c.House [("many", .int many), ("rules", .tup rs), ("lists", .tup ls)]) := by rw [← hM3]; exact up_same
  have k3 : ∀ a o, a ≠ p → M a = some o → M3 a = some o := fun a o ha e => by
    rw [← hM3, up_ne ha, up_ne ha, up_ne ha]
    exact k2 _ _ (k1 _ _ e)
  clear hM3
  refine dc_k (T := ⟨rs, fun _ => True⟩) kName (names_nodup hr.called hr.rise) (fun _ _ => trivial) (fun x hx M4 k k4 hk => ?_) fun kvs M4 k4 ek q hq => ?_
  · obtain ⟨nm, prs, rfl, hn, hp', hr'⟩ := hr.each x hx
    refine ⟨_, rfl, ?_⟩
    simp only [Ss.wp, S.wp, E.wp, E.wpT, Es.wp, Es.wpV, Es.wpT, Oe.wpO, Oe.wpT, Wk.wp, wSeq, wRet, wRetN, wNext, wNever, wDrop, wAsg, wIfS, wFor, wPar, wPar3, wFldS, wSetI, wSetK, wDnew, wMeth, wBm, wAndV, wOrV, wNotV, wAnd, wOr, wNot, wTest, wTru, wIf, w1, w2, w3, wVar, wC, wNil, wCons, wTup, wLst, wCall, wCallK, wO0, wO1, wSl, wLc, wISeq, wIR1, wIR2, wIZip, wIStr, wIEn, wDc, DcK.emp, Wk.wp, binF, cmpF, isaD, negD, Blt.spec, Bm.spec, Bm.ty, List.getElem?_cons_zero, List.getElem?_cons_succ, Option.some.injEq, exists_eq_left', exists_eq_left, exists_and_left, List.set_cons_zero, List.set_cons_succ, asn_name, asn_tup, asns_nil, asns_name, wipeD, tru_bl, tru_int, tru_non, tru_tup, bodyEnds, List.map_cons, List.map_nil, ↓reduceIte, Bool.false_eq_true, and_true, true_and, D.str.injEq, D.int.injEq, D.ref.injEq, D.tup.injEq, D.bl.injEq]
    refine ⟨_, seqT_t, (sz_tup (sz_pair ((sz_tup zr).2 _ hx))).1, ?_⟩
    refine dc_t (T := ⟨prs, fun _ => True⟩) (P := c.P) (w := c.w) kPair (pairs_nodup hp' hr') (fun _ _ => trivial) (fun y hy M5 k' k5 hk' => ?_) fun kvs M5 k5 ek q hq => ?_
    · obtain ⟨i, j, rfl⟩ := isPr_ints (hp' y hy)
      refine ⟨_, rfl, ?_⟩
      simp only [Ss.wp, S.wp, E.wp, E.wpT, Es.wp, Es.wpV, Es.wpT, Oe.wpO, Oe.wpT, Wk.wp, wSeq, wRet, wRetN, wNext, wNever, wDrop, wAsg, wIfS, wFor, wPar, wPar3, wFldS, wSetI, wSetK, wDnew, wMeth, wBm, wAndV, wOrV, wNotV, wAnd, wOr, wNot, wTest, wTru, wIf, w1, w2, w3, wVar, wC, wNil, wCons, wTup, wLst, wCall, wCallK, wO0, wO1, wSl, wLc, wISeq, wIR1, wIR2, wIZip, wIStr, wIEn, wDc, DcK.emp, Wk.wp, binF, cmpF, isaD, negD, Blt.spec, Bm.spec, Bm.ty, List.getElem?_cons_zero, List.getElem?_cons_succ, Option.some.injEq, exists_eq_left', exists_eq_left, exists_and_left, List.set_cons_zero, List.set_cons_succ, asn_name, asn_tup, asns_nil, asns_name, wipeD, tru_bl, tru_int, tru_non, tru_tup, bodyEnds, List.map_cons, List.map_nil, ↓reduceIte, Bool.false_eq_true, and_true, true_and, D.str.injEq, D.int.injEq, D.ref.injEq, D.tup.injEq, D.bl.injEq]
      exact hk' _ _ M5 rfl k5
    · exact hk _ _ _ rfl ((k4.trans k5).trans (.new hq))
  · have p4 : M4 p = some (.ins c.House [("many", .int many), ("rules", .tup rs), ("lists", .tup ls)]) := k4 _ _ p3
    have np : p ≠ q := fun e => by subst e; rw [p4] at hq; cases hq
    refine ⟨_, by rw [up_ne np]; exact p4, by simp, _, seqT_t, (sz_tup zl).1, ?_⟩
    rw [put_pairs_by]
    generalize hM5 : up (up M4 q _) p _ = M5
    have p5 : M5 p = some (.ins c.House [("many", .int many), ("rules", .tup rs), ("lists", .tup ls), ("pairs_by", .ref q)]) := by rw [← hM5]; exact up_same
    have k5 : ∀ a o, a ≠ p → M a = some o → M5 a = some o := fun a o ha e => by
      have e4 := k4 _ _ (k3 a o ha e)
      have nq : a ≠ q := fun z => by subst z; rw [e4] at hq; cases hq
      rw [← hM5, up_ne ha, up_ne nq]
      exact e4
    clear hM5
    refine dc_k (T := ⟨ls, fun _ => True⟩) kName (names_nodup hl.called hl.rise) (fun _ _ => trivial) (fun x hx M6 k k6 hk => ?_) fun kvs M6 k6 ek q2 hq2 => ?_
    · obtain ⟨nm, ms, rfl, hn, hp', hr'⟩ := hl.each x hx
      refine ⟨_, rfl, ?_⟩
      simp only [Ss.wp, S.wp, E.wp, E.wpT, Es.wp, Es.wpV, Es.wpT, Oe.wpO, Oe.wpT, Wk.wp, wSeq, wRet, wRetN, wNext, wNever, wDrop, wAsg, wIfS, wFor, wPar, wPar3, wFldS, wSetI, wSetK, wDnew, wMeth, wBm, wAndV, wOrV, wNotV, wAnd, wOr, wNot, wTest, wTru, wIf, w1, w2, w3, wVar, wC, wNil, wCons, wTup, wLst, wCall, wCallK, wO0, wO1, wSl, wLc, wISeq, wIR1, wIR2, wIZip, wIStr, wIEn, wDc, DcK.emp, Wk.wp, binF, cmpF, isaD, negD, Blt.spec, Bm.spec, Bm.ty, List.getElem?_cons_zero, List.getElem?_cons_succ, Option.some.injEq, exists_eq_left', exists_eq_left, exists_and_left, List.set_cons_zero, List.set_cons_succ, asn_name, asn_tup, asns_nil, asns_name, wipeD, tru_bl, tru_int, tru_non, tru_tup, bodyEnds, List.map_cons, List.map_nil, ↓reduceIte, Bool.false_eq_true, and_true, true_and, D.str.injEq, D.int.injEq, D.ref.injEq, D.tup.injEq, D.bl.injEq]
      refine ⟨_, seqT_t, (sz_tup (sz_pair ((sz_tup zl).2 _ hx))).1, ?_⟩
      refine dc_k (T := ⟨ms, fun _ => True⟩) kMark (marks_nodup hp' hr') (fun _ _ => trivial) (fun y hy M7 k' k7 hk' => ?_) fun kvs M7 k7 ek q hq => ?_
      · obtain ⟨i, rfl⟩ := isWh_int (hp' y hy)
        refine ⟨_, rfl, ?_⟩
        simp only [Ss.wp, S.wp, E.wp, E.wpT, Es.wp, Es.wpV, Es.wpT, Oe.wpO, Oe.wpT, Wk.wp, wSeq, wRet, wRetN, wNext, wNever, wDrop, wAsg, wIfS, wFor, wPar, wPar3, wFldS, wSetI, wSetK, wDnew, wMeth, wBm, wAndV, wOrV, wNotV, wAnd, wOr, wNot, wTest, wTru, wIf, w1, w2, w3, wVar, wC, wNil, wCons, wTup, wLst, wCall, wCallK, wO0, wO1, wSl, wLc, wISeq, wIR1, wIR2, wIZip, wIStr, wIEn, wDc, DcK.emp, Wk.wp, binF, cmpF, isaD, negD, Blt.spec, Bm.spec, Bm.ty, List.getElem?_cons_zero, List.getElem?_cons_succ, Option.some.injEq, exists_eq_left', exists_eq_left, exists_and_left, List.set_cons_zero, List.set_cons_succ, asn_name, asn_tup, asns_nil, asns_name, wipeD, tru_bl, tru_int, tru_non, tru_tup, bodyEnds, List.map_cons, List.map_nil, ↓reduceIte, Bool.false_eq_true, and_true, true_and, D.str.injEq, D.int.injEq, D.ref.injEq, D.tup.injEq, D.bl.injEq]
        exact hk' _ _ M7 rfl k7
      · exact hk _ _ _ rfl ((k6.trans k7).trans (.new hq))
    · have p6 : M6 p = some (.ins c.House [("many", .int many), ("rules", .tup rs), ("lists", .tup ls), ("pairs_by", .ref q)]) := k6 _ _ p5
      have np2 : p ≠ q2 := fun e => by subst e; rw [p6] at hq2; cases hq2
      refine ⟨_, by rw [up_ne np2]; exact p6, by simp, ?_⟩
      rw [put_marks_by]
      refine h _ q q2 (fun a o ha e => ?_) up_same
      have e6 := k6 _ _ (k5 a o ha e)
      have nq : a ≠ q2 := fun z => by subst z; rw [e6] at hq2; cases hq2
      rw [up_ne ha, up_ne nq]
      exact e6
end DL

set_option Elab.async false
set_option linter.all false
set_option maxRecDepth 100000
set_option maxHeartbeats 4000000
/-! W3: nets, of good values. -/
namespace DL
open PySem L2
def tie (nm : Str) (is : List Int) : D := .tup (.str nm :: is.map D.int)
structure TiesOk (knots : Int) (n : Nat) (xs : List D) : Prop where
  each : ∀ x ∈ xs, ∃ nm is, x = tie nm is ∧ is.length = n ∧ nameS nm = true ∧ ∀ i ∈ is, 0 ≤ i ∧ i ≤ knots - 1
  rise : risB xs = true
theorem alike_ints : ∀ (is js : List Int), PySem.W.alikeAll (pys (is.map D.int)) (pys (js.map D.int)) = true
  | [], _ => by simp [pys, PySem.W.alikeAll]
  | _ :: _, [] => by simp [pys, PySem.W.alikeAll]
  | i :: is, j :: js => by simp [pys, py, PySem.W.alikeAll, PySem.W.alike, alike_ints is js]
theorem depth_ints : ∀ (is : List Int), PyData.depthAll (pys (is.map D.int)) ≤ 1
  | [] => by simp [pys, PyData.depthAll]
  | i :: is => by
    have := depth_ints is
    simp [pys, py, PyData.depthAll, PyData.depth]
    omega
theorem plains_ints : ∀ (is : List Int), plains (is.map D.int) = true
  | [] => rfl
  | i :: is => by
    show (plain (.int i) && plains (is.map D.int)) = true
    rw [plains_ints is]; rfl
theorem cmpP_tie (n1 n2 : Str) (is js : List Int) : cmpP (tie n1 is) (tie n2 js) := by
  refine ⟨?_, ?_, ?_, ?_, ?_⟩
  · show (plain (.str n1) && plains (is.map D.int)) = true
    rw [plains_ints]; rfl
  · show (plain (.str n2) && plains (js.map D.int)) = true
    rw [plains_ints]; rfl
  · simp [tie, py, pys, PySem.W.alike, PySem.W.alikeAll, alike_ints]
  · simp [tie, py]
  · have := depth_ints is
    simp [tie, py, pys, PyData.depth, PyData.depthAll]
    omega
theorem TiesOk.cmp {knots : Int} {n : Nat} {xs : List D} (h : TiesOk knots n xs) : cmpL xs := cmpL_of fun x hx y hy => by
  obtain ⟨n1, is, rfl, _⟩ := h.each x hx
  obtain ⟨n2, js, rfl, _⟩ := h.each y hy
  exact cmpP_tie n1 n2 is js
def S_are_ties (_ : Cs) : Spec := fun ds M Q => ∃ xs knots n most, ds = [.tup xs, .int knots, .int (n + 1 : Nat), .int most] ∧ (xs.length : Int) ≤ most ∧ TiesOk knots n xs ∧ ∀ M', Keep M M' → Q (.bl true) M'
abbrev N_are_ties : List Str := ["thing", "knots", "size", "most", "tie"]
def ir_are_ties (c : Cs) : Ss := (.cons (.ife (.bop .Or (.cons (.not_ (.isa (.var 0) (.bty "tuple") (isaB c "tuple"))) (.cons (.cmp .Gt (.bcall .len (.cons (.var 0) .nil)) (.var 3)) .nil))) (.cons (.ret (.bl false)) .nil) .nil) (.cons (.for_ (.name 4) (.seq (.var 0)) (.cons (.ife (.bop .Or (.cons (.not_ (.isa (.var 4) (.bty "tuple") (isaB c "tuple"))) (.cons (.cmp .NotEq (.bcall .len (.cons (.var 4) .nil)) (.var 2)) (.cons (.not_ (.call "is_name" (S_is_name c) (.cons (.idx (.var 4) (.int 0)) .nil))) .nil)))) (.cons (.ret (.bl false)) .nil) .nil) (.cons (.ife (.not_ (.call "are_whole" (S_are_whole c) (.cons (.slc (.var 4) (.some (.int 1)) .none) (.cons (.int 0) (.cons (.bin .Sub (.var 1) (.int 1)) .nil))))) (.cons (.ret (.bl false)) .nil) .nil) .nil))) (.cons (.ret (.call "are_rising" (S_are_rising c) (.cons (.var 0) .nil))) .nil)))
theorem wp_are_ties (c : Cs) {xs : List D} {knots most : Int} {n : Nat} {M : Mp} {Q : DQ} (hl : (xs.length : Int) ≤ most) (ok : TiesOk knots n xs) (hz : xs.length ≤ sizeLine) (h : ∀ M', Keep M M' → Q (.bl true) M') :
    (ir_are_ties c).wp (bodyEnds Q) [some (.tup xs), some (.int knots), some (.int (n + 1 : Nat)), some (.int most), none] M := by
  simp only [ir_are_ties, Ss.wp, S.wp, E.wp, E.wpT, Es.wp, Es.wpV, Es.wpT, Oe.wpO, Oe.wpT, Wk.wp, wSeq, wRet, wRetN, wNext, wNever, wDrop, wAsg, wIfS, wFor, wPar, wPar3, wFldS, wSetI, wSetK, wDnew, wMeth, wBm, wAndV, wOrV, wNotV, wAnd, wOr, wNot, wTest, wTru, wIf, w1, w2, w3, wVar, wC, wNil, wCons, wTup, wLst, wCall, wCallK, wO0, wO1, wSl, wLc, wISeq, wIR1, wIR2, wIZip, wIStr, wIEn, wDc, DcK.emp, Wk.wp, binF, cmpF, isaD, negD, Blt.spec, Bm.spec, Bm.ty, List.getElem?_cons_zero, List.getElem?_cons_succ, Option.some.injEq, exists_eq_left', exists_eq_left, exists_and_left, List.set_cons_zero, List.set_cons_succ, asn_name, asn_tup, asns_nil, asns_name, wipeD, tru_bl, tru_int, tru_non, tru_tup, bodyEnds, List.map_cons, List.map_nil, ↓reduceIte, Bool.false_eq_true, and_true, true_and, D.str.injEq, D.int.injEq, D.ref.injEq, D.tup.injEq, D.bl.injEq]
  refine ⟨true, rfl, ?_⟩
  simp only [Bool.not_true, Bool.false_eq_true, if_false]
  refine len_t (ord_int ⟨_, rfl, ?_⟩)
  have e : decide (most < (xs.length : Int)) = false := decide_eq_false (by omega)
  simp only [e, Bool.false_eq_true, if_false]
  refine ⟨_, seqT_t, ?_⟩
  refine forGo_inv (T := ⟨xs, fun _ => True⟩) (fun _ ρ M' => Keep M M' ∧ ∃ v, ρ = [some (.tup xs), some (.int knots), some (.int (n + 1 : Nat)), some (.int most), v]) (fun _ _ _ _ => trivial) xs [] _ M ⟨.refl M, none, rfl⟩ (fun x hx done ρ M1 k hJ hk => ?_) fun ρ M1 hJ => ?_
  · obtain ⟨k1, v, rfl⟩ := hJ
    obtain ⟨nm, is, rfl, hi, hn, hr⟩ := ok.each x hx
    refine ⟨_, rfl, ?_⟩
    simp only [Ss.wp, S.wp, E.wp, E.wpT, Es.wp, Es.wpV, Es.wpT, Oe.wpO, Oe.wpT, Wk.wp, wSeq, wRet, wRetN, wNext, wNever, wDrop, wAsg, wIfS, wFor, wPar, wPar3, wFldS, wSetI, wSetK, wDnew, wMeth, wBm, wAndV, wOrV, wNotV, wAnd, wOr, wNot, wTest, wTru, wIf, w1, w2, w3, wVar, wC, wNil, wCons, wTup, wLst, wCall, wCallK, wO0, wO1, wSl, wLc, wISeq, wIR1, wIR2, wIZip, wIStr, wIEn, wDc, DcK.emp, Wk.wp, binF, cmpF, isaD, negD, Blt.spec, Bm.spec, Bm.ty, List.getElem?_cons_zero, List.getElem?_cons_succ, Option.some.injEq, exists_eq_left', exists_eq_left, exists_and_left, List.set_cons_zero, List.set_cons_succ, asn_name, asn_tup, asns_nil, asns_name, wipeD, tru_bl, tru_int, tru_non, tru_tup, bodyEnds, List.map_cons, List.map_nil, ↓reduceIte, Bool.false_eq_true, and_true, true_and, D.str.injEq, D.int.injEq, D.ref.injEq, D.tup.injEq, D.bl.injEq]
    refine ⟨true, rfl, ?_⟩
    simp only [Bool.not_true, Bool.false_eq_true, if_false]
    refine len_t (eq_int ⟨_, rfl, ?_⟩)
    have e2 : ((D.str nm :: is.map D.int).length : Int) = ((n + 1 : Nat) : Int) := by rw [List.length_cons, List.length_map, hi]
    simp only [e2, decide_true, Bool.not_true, Bool.false_eq_true, if_false, if_true]
    refine ix_t 0 rfl ⟨_, rfl, kn_str, fun y e => by cases e; exact nameS_len hn, fun M2 h2 => ?_⟩
    have e3 : isNm (.str nm) = true := hn
    simp only [e3, Ss.wp, S.wp, E.wp, E.wpT, Es.wp, Es.wpV, Es.wpT, Oe.wpO, Oe.wpT, Wk.wp, wSeq, wRet, wRetN, wNext, wNever, wDrop, wAsg, wIfS, wFor, wPar, wPar3, wFldS, wSetI, wSetK, wDnew, wMeth, wBm, wAndV, wOrV, wNotV, wAnd, wOr, wNot, wTest, wTru, wIf, w1, w2, w3, wVar, wC, wNil, wCons, wTup, wLst, wCall, wCallK, wO0, wO1, wSl, wLc, wISeq, wIR1, wIR2, wIZip, wIStr, wIEn, wDc, DcK.emp, Wk.wp, binF, cmpF, isaD, negD, Blt.spec, Bm.spec, Bm.ty, List.getElem?_cons_zero, List.getElem?_cons_succ, Option.some.injEq, exists_eq_left', exists_eq_left, exists_and_left, List.set_cons_zero, List.set_cons_succ, asn_name, asn_tup, asns_nil, asns_name, wipeD, tru_bl, tru_int, tru_non, tru_tup, bodyEnds, List.map_cons, List.map_nil, ↓reduceIte, Bool.false_eq_true, and_true, true_and, D.str.injEq, D.int.injEq, D.ref.injEq, D.tup.injEq, D.bl.injEq, Bool.not_true]
    refine slD_t (cut_one _) ⟨knots, 1, rfl, rfl, trivial, _, 0, knots - 1, rfl, ⟨kn_tup, fun ys ey y hy => ?_⟩, fun M3 h3 => ?_⟩
    · cases ey
      obtain ⟨i, _, rfl⟩ := List.mem_map.mp hy
      exact kn_int
    · have e4 : areWh (.tup (List.drop 1 (D.str nm :: is.map D.int))) 0 (knots - 1) = true := by
        show (is.map D.int).all (fun x => isWh x 0 (knots - 1)) = true
        rw [List.all_map, List.all_eq_true]
        intro i hi'
        obtain ⟨a, b⟩ := hr i hi'
        simp [isWh, a, b]
      simp only [e4, Ss.wp, S.wp, E.wp, E.wpT, Es.wp, Es.wpV, Es.wpT, Oe.wpO, Oe.wpT, Wk.wp, wSeq, wRet, wRetN, wNext, wNever, wDrop, wAsg, wIfS, wFor, wPar, wPar3, wFldS, wSetI, wSetK, wDnew, wMeth, wBm, wAndV, wOrV, wNotV, wAnd, wOr, wNot, wTest, wTru, wIf, w1, w2, w3, wVar, wC, wNil, wCons, wTup, wLst, wCall, wCallK, wO0, wO1, wSl, wLc, wISeq, wIR1, wIR2, wIZip, wIStr, wIEn, wDc, DcK.emp, Wk.wp, binF, cmpF, isaD, negD, Blt.spec, Bm.spec, Bm.ty, List.getElem?_cons_zero, List.getElem?_cons_succ, Option.some.injEq, exists_eq_left', exists_eq_left, exists_and_left, List.set_cons_zero, List.set_cons_succ, asn_name, asn_tup, asns_nil, asns_name, wipeD, tru_bl, tru_int, tru_non, tru_tup, bodyEnds, List.map_cons, List.map_nil, ↓reduceIte, Bool.false_eq_true, and_true, true_and, D.str.injEq, D.int.injEq, D.ref.injEq, D.tup.injEq, D.bl.injEq, Bool.not_true]
      exact hk _ M3 ⟨k1.trans (h2.trans h3), _, rfl⟩
  · obtain ⟨k1, v, rfl⟩ := hJ
    simp only [Ss.wp, S.wp, E.wp, E.wpT, Es.wp, Es.wpV, Es.wpT, Oe.wpO, Oe.wpT, Wk.wp, wSeq, wRet, wRetN, wNext, wNever, wDrop, wAsg, wIfS, wFor, wPar, wPar3, wFldS, wSetI, wSetK, wDnew, wMeth, wBm, wAndV, wOrV, wNotV, wAnd, wOr, wNot, wTest, wTru, wIf, w1, w2, w3, wVar, wC, wNil, wCons, wTup, wLst, wCall, wCallK, wO0, wO1, wSl, wLc, wISeq, wIR1, wIR2, wIZip, wIStr, wIEn, wDc, DcK.emp, Wk.wp, binF, cmpF, isaD, negD, Blt.spec, Bm.spec, Bm.ty, List.getElem?_cons_zero, List.getElem?_cons_succ, Option.some.injEq, exists_eq_left', exists_eq_left, exists_and_left, List.set_cons_zero, List.set_cons_succ, asn_name, asn_tup, asns_nil, asns_name, wipeD, tru_bl, tru_int, tru_non, tru_tup, bodyEnds, List.map_cons, List.map_nil, ↓reduceIte, Bool.false_eq_true, and_true, true_and, D.str.injEq, D.int.injEq, D.ref.injEq, D.tup.injEq, D.bl.injEq]
    refine ⟨_, xs, rfl, .inl rfl, ok.cmp, fun M2 h2 => ?_⟩
    rw [ok.rise]
    exact h M2 (k1.trans h2)
/-! ### data at large -/
def lay (d : D) : Prop := (py d).canLay0 = true
theorem lays_of : ∀ {ds : List D}, (∀ d ∈ ds, lay d) → PyData.canLayAll0 (pys ds) = true
  | [], _ => by unfold pys PyData.canLayAll0; rfl
  | d :: ds, h => by
    unfold pys PyData.canLayAll0
    rw [h d List.mem_cons_self, lays_of fun e he => h e (List.mem_cons_of_mem _ he)]; rfl
theorem lay_tup {ds : List D} (h : ∀ d ∈ ds, lay d) : lay (.tup ds) := by
  unfold lay py PyData.canLay0
  exact lays_of h
theorem lay_int (i : Int) : lay (.int i) := by unfold lay py PyData.canLay0; rfl
theorem lay_name {x : Str} (h : nameS x = true) : lay (.str x) := by
  unfold lay py PyData.canLay0 PyData.strOk
  unfold nameS at h
  rw [Bool.and_eq_true] at h
  have h2 := List.all_eq_true.mp h.2
  rw [← Array.all_toList, List.all_eq_true]
  intro c hc
  have h3 := h2 c hc
  unfold isLetter at h3
  rw [Bool.and_eq_true] at h3
  have a := of_decide_eq_true h3.1
  have b := of_decide_eq_true h3.2
  simp
  omega
theorem lay_tie {nm : Str} {is : List Int} (h : nameS nm = true) : lay (tie nm is) := lay_tup fun d hd => by
  rcases List.mem_cons.mp hd with rfl | hd
  · exact lay_name h
  · obtain ⟨i, _, rfl⟩ := List.mem_map.mp hd
    exact lay_int i
theorem deps_le {n : Nat} : ∀ {ds : List D}, (∀ d ∈ ds, (py d).depth ≤ n) → PyData.depthAll (pys ds) ≤ n
  | [], _ => by simp [pys, PyData.depthAll]
  | d :: ds, h => by
    have h1 := h d List.mem_cons_self
    have h2 := deps_le (ds := ds) fun e he => h e (List.mem_cons_of_mem _ he)
    simp [pys, PyData.depthAll]
    omega
theorem dep_le {n : Nat} {ds : List D} (h : ∀ d ∈ ds, (py d).depth ≤ n) : (py (.tup ds)).depth ≤ n + 1 := by
  have := deps_le h
  simp [py, PyData.depth]
  omega
theorem shaped_py {d : D} (hl : lay d) (h : (py d).depth ≤ 64) : SeqAt.shaped (py d) = true := by
  unfold SeqAt.shaped
  rw [show (py d).canLay0 = true from hl, decide_eq_true h]; rfl
theorem eq_self {neg : Bool} {d : D} {M : Mp} {Q : DQ} (hp : plain d = true) (hl : lay d) (hd : (py d).depth ≤ 64) (h : Q (.bl (!neg)) M) : eqD neg d d M Q := by
  refine eq_plain hp hp (shaped_py hl hd) (shaped_py hl hd) ?_
  rw [SeqAt.eqv_refl _ hl]
  cases neg <;> exact h
/-! ### Net -/
def netF (k l b : D) : List (Str × D) := [("knots", k), ("links", l), ("labels", b)]
theorem put_knots {a : D} : putD ("knots" : Str) a ([] : List (Str × D)) = ([("knots", a)] : List (Str × D)) := rfl
theorem put_links {a b : D} : putD ("links" : Str) b ([("knots", a)] : List (Str × D)) = ([("knots", a), ("links", b)] : List (Str × D)) := by
  unfold putD
  rw [if_neg (by decide +kernel)]
  rfl
theorem put_labels {a b d : D} : putD ("labels" : Str) d ([("knots", a), ("links", b)] : List (Str × D)) = netF a b d := by
  unfold putD
  rw [if_neg (by decide +kernel)]
  unfold putD
  rw [if_neg (by decide +kernel)]
  rfl
theorem look_knots {k l b : D} : (netF k l b).lookup ("knots" : Str) = some k := by
  unfold netF; rw [List.lookup_cons]; rw [show (("knots" : Str) == ("knots" : Str)) = true by decide +kernel]
theorem look_links {k l b : D} : (netF k l b).lookup ("links" : Str) = some l := by
  unfold netF; rw [List.lookup_cons, show (("links" : Str) == ("knots" : Str)) = false by decide +kernel]
  show List.lookup _ _ = _
  rw [List.lookup_cons, show (("links" : Str) == ("links" : Str)) = true by decide +kernel]
theorem look_labels {k l b : D} : (netF k l b).lookup ("labels" : Str) = some b := by
  unfold netF; rw [List.lookup_cons, show (("labels" : Str) == ("knots" : Str)) = false by decide +kernel]
  show List.lookup _ _ = _
  rw [List.lookup_cons, show (("labels" : Str) == ("links" : Str)) = false by decide +kernel]
  show List.lookup _ _ = _
  rw [List.lookup_cons, show (("labels" : Str) == ("labels" : Str)) = true by decide +kernel]
structure NetOk (knots : Int) (ls bs : List D) : Prop where
  k0 : 0 ≤ knots
  k1 : knots ≤ 60
  ll : ls.length ≤ 700
  bl : bs.length ≤ 400
  lk : TiesOk knots 2 ls
  lb : TiesOk knots 1 bs
def S_Net_init (c : Cs) : Spec := fun ds M Q => ∃ p knots ls bs, ds = [.ref p, .int knots, .tup ls, .tup bs] ∧ M p = some (.ins c.Net []) ∧ NetOk knots ls bs ∧
  ∀ M', (∀ a o, a ≠ p → M a = some o → M' a = some o) → M' p = some (.ins c.Net (netF (.int knots) (.tup ls) (.tup bs))) → Q .non M'
abbrev N_Net_init : List Str := ["self", "knots", "links", "labels"]
def ir_Net_init (c : Cs) : Ss := (.cons (.ife (.not_ (.call "is_whole" (S_is_whole c) (.cons (.var 1) (.cons (.int 0) (.cons (.glob "MOST_KNOTS" (.int 60)) .nil))))) (.cons .never .nil) .nil) (.cons (.ife (.not_ (.call "are_ties" (S_are_ties c) (.cons (.var 2) (.cons (.var 1) (.cons (.int 3) (.cons (.glob "MOST_LINKS" (.int 700)) .nil)))))) (.cons .never .nil) .nil) (.cons (.ife (.not_ (.call "are_ties" (S_are_ties c) (.cons (.var 3) (.cons (.var 1) (.cons (.int 2) (.cons (.glob "MOST_LABELS" (.int 400)) .nil)))))) (.cons .never .nil) .nil) (.cons (.fld (.var 0) c.Net "knots" (.var 1)) (.cons (.fld (.var 0) c.Net "links" (.var 2)) (.cons (.fld (.var 0) c.Net "labels" (.var 3)) .nil))))))
theorem wp_Net_init (c : Cs) {p : Addr} {knots : Int} {ls bs : List D} {M : Mp} {Q : DQ} (hp : M p = some (.ins c.Net [])) (ok : NetOk knots ls bs)
    (h : ∀ M', (∀ a o, a ≠ p → M a = some o → M' a = some o) → M' p = some (.ins c.Net (netF (.int knots) (.tup ls) (.tup bs))) → Q .non M') :
    (ir_Net_init c).wp (bodyEnds Q) [some (.ref p), some (.int knots), some (.tup ls), some (.tup bs)] M := by
  simp only [ir_Net_init, Ss.wp, S.wp, E.wp, E.wpT, Es.wp, Es.wpV, Es.wpT, Oe.wpO, Oe.wpT, Wk.wp, wSeq, wRet, wRetN, wNext, wNever, wDrop, wAsg, wIfS, wFor, wPar, wPar3, wFldS, wSetI, wSetK, wDnew, wMeth, wBm, wAndV, wOrV, wNotV, wAnd, wOr, wNot, wTest, wTru, wIf, w1, w2, w3, wVar, wC, wNil, wCons, wTup, wLst, wCall, wCallK, wO0, wO1, wSl, wLc, wISeq, wIR1, wIR2, wIZip, wIStr, wIEn, wDc, DcK.emp, Wk.wp, binF, cmpF, isaD, negD, Blt.spec, Bm.spec, Bm.ty, List.getElem?_cons_zero, List.getElem?_cons_succ, Option.some.injEq, exists_eq_left', exists_eq_left, exists_and_left, List.set_cons_zero, List.set_cons_succ, asn_name, asn_tup, asns_nil, asns_name, wipeD, tru_bl, tru_int, tru_non, tru_tup, bodyEnds, List.map_cons, List.map_nil, ↓reduceIte, Bool.false_eq_true, and_true, true_and, D.str.injEq, D.int.injEq, D.ref.injEq, D.tup.injEq, D.bl.injEq]
  refine ⟨_, 0, 60, rfl, kn_int, ?_⟩
  have e1 : isWh (.int knots) 0 60 = true := by simp [isWh, ok.k0, ok.k1]
  simp only [e1, Ss.wp, S.wp, E.wp, E.wpT, Es.wp, Es.wpV, Es.wpT, Oe.wpO, Oe.wpT, Wk.wp, wSeq, wRet, wRetN, wNext, wNever, wDrop, wAsg, wIfS, wFor, wPar, wPar3, wFldS, wSetI, wSetK, wDnew, wMeth, wBm, wAndV, wOrV, wNotV, wAnd, wOr, wNot, wTest, wTru, wIf, w1, w2, w3, wVar, wC, wNil, wCons, wTup, wLst, wCall, wCallK, wO0, wO1, wSl, wLc, wISeq, wIR1, wIR2, wIZip, wIStr, wIEn, wDc, DcK.emp, Wk.wp, binF, cmpF, isaD, negD, Blt.spec, Bm.spec, Bm.ty, List.getElem?_cons_zero, List.getElem?_cons_succ, Option.some.injEq, exists_eq_left', exists_eq_left, exists_and_left, List.set_cons_zero, List.set_cons_succ, asn_name, asn_tup, asns_nil, asns_name, wipeD, tru_bl, tru_int, tru_non, tru_tup, bodyEnds, List.map_cons, List.map_nil, ↓reduceIte, Bool.false_eq_true, and_true, true_and, D.str.injEq, D.int.injEq, D.ref.injEq, D.tup.injEq, D.bl.injEq, Bool.not_true]
  refine ⟨ls, knots, 2, 700, rfl, by have := ok.ll; omega, ok.lk, fun M1 k1 => ?_⟩
  simp only [Ss.wp, S.wp, E.wp, E.wpT, Es.wp, Es.wpV, Es.wpT, Oe.wpO, Oe.wpT, Wk.wp, wSeq, wRet, wRetN, wNext, wNever, wDrop, wAsg, wIfS, wFor, wPar, wPar3, wFldS, wSetI, wSetK, wDnew, wMeth, wBm, wAndV, wOrV, wNotV, wAnd, wOr, wNot, wTest, wTru, wIf, w1, w2, w3, wVar, wC, wNil, wCons, wTup, wLst, wCall, wCallK, wO0, wO1, wSl, wLc, wISeq, wIR1, wIR2, wIZip, wIStr, wIEn, wDc, DcK.emp, Wk.wp, binF, cmpF, isaD, negD, Blt.spec, Bm.spec, Bm.ty, List.getElem?_cons_zero, List.getElem?_cons_succ, Option.some.injEq, exists_eq_left', exists_eq_left, exists_and_left, List.set_cons_zero, List.set_cons_succ, asn_name, asn_tup, asns_nil, asns_name, wipeD, tru_bl, tru_int, tru_non, tru_tup, bodyEnds, List.map_cons, List.map_nil, ↓reduceIte, Bool.false_eq_true, and_true, true_and, D.str.injEq, D.int.injEq, D.ref.injEq, D.tup.injEq, D.bl.injEq, Bool.not_true]
  refine ⟨bs, knots, 1, 400, rfl, by have := ok.bl; omega, ok.lb, fun M2 k2 => ?_⟩
  simp only [Ss.wp, S.wp, E.wp, E.wpT, Es.wp, Es.wpV, Es.wpT, Oe.wpO, Oe.wpT, Wk.wp, wSeq, wRet, wRetN, wNext, wNever, wDrop, wAsg, wIfS, wFor, wPar, wPar3, wFldS, wSetI, wSetK, wDnew, wMeth, wBm, wAndV, wOrV, wNotV, wAnd, wOr, wNot, wTest, wTru, wIf, w1, w2, w3, wVar, wC, wNil, wCons, wTup, wLst, wCall, wCallK, wO0, wO1, wSl, wLc, wISeq, wIR1, wIR2, wIZip, wIStr, wIEn, wDc, DcK.emp, Wk.wp, binF, cmpF, isaD, negD, Blt.spec, Bm.spec, Bm.ty, List.getElem?_cons_zero, List.getElem?_cons_succ, Option.some.injEq, exists_eq_left', exists_eq_left, exists_and_left, List.set_cons_zero, List.set_cons_succ, asn_name, asn_tup, asns_nil, asns_name, wipeD, tru_bl, tru_int, tru_non, tru_tup, bodyEnds, List.map_cons, List.map_nil, ↓reduceIte, Bool.false_eq_true, and_true, true_and, D.str.injEq, D.int.injEq, D.ref.injEq, D.tup.injEq, D.bl.injEq, Bool.not_true]
  have hp2 : M2 p = some (.ins c.Net []) := k2 _ _ (k1 _ _ hp)
  refine ⟨_, hp2, by simp, _, up_same, by rw [put_knots]; simp, _, up_same, by rw [put_knots, put_links]; simp, ?_⟩
  rw [put_knots, put_links, put_labels]
  refine h _ (fun a o ha e => ?_) up_same
  rw [up_ne ha, up_ne ha, up_ne ha]
  exact k2 _ _ (k1 _ _ e)
def S_Net_len_ (c : Cs) : Spec := fun ds M Q => ∃ p knots l b, ds = [.ref p] ∧ M p = some (.ins c.Net (netF (.int knots) l b)) ∧ 0 ≤ knots ∧ knots ≤ 60 ∧ ∀ M', Keep M M' → Q (.int knots) M'
abbrev N_Net_len : List Str := ["self"]
def ir_Net_len (c : Cs) : Ss := (.cons (.ret (.bcall .len (.cons (.bin .Mult (.lst (.cons (.int 0) .nil)) (.fld (.var 0) c.Net "knots")) .nil))) .nil)
theorem rep_len {α : Type} (x : α) (n : Nat) : (List.replicate n [x]).flatten.length = n := by
  induction n with
  | zero => rfl
  | succ n ih => rw [List.replicate_succ, List.flatten_cons, List.length_append, ih]; simp; omega
theorem wp_Net_len (c : Cs) {p : Addr} {knots : Int} {l b : D} {M : Mp} {Q : DQ} (hp : M p = some (.ins c.Net (netF (.int knots) l b))) (k0 : 0 ≤ knots) (k1 : knots ≤ 60) (h : ∀ M', Keep M M' → Q (.int knots) M') : (ir_Net_len c).wp (bodyEnds Q) [some (.ref p)] M := by
  simp only [ir_Net_len, Ss.wp, S.wp, E.wp, E.wpT, Es.wp, Es.wpV, Es.wpT, Oe.wpO, Oe.wpT, Wk.wp, wSeq, wRet, wRetN, wNext, wNever, wDrop, wAsg, wIfS, wFor, wPar, wPar3, wFldS, wSetI, wSetK, wDnew, wMeth, wBm, wAndV, wOrV, wNotV, wAnd, wOr, wNot, wTest, wTru, wIf, w1, w2, w3, wVar, wC, wNil, wCons, wTup, wLst, wCall, wCallK, wO0, wO1, wSl, wLc, wISeq, wIR1, wIR2, wIZip, wIStr, wIEn, wDc, DcK.emp, Wk.wp, binF, cmpF, isaD, negD, Blt.spec, Bm.spec, Bm.ty, List.getElem?_cons_zero, List.getElem?_cons_succ, Option.some.injEq, exists_eq_left', exists_eq_left, exists_and_left, List.set_cons_zero, List.set_cons_succ, asn_name, asn_tup, asns_nil, asns_name, wipeD, tru_bl, tru_int, tru_non, tru_tup, bodyEnds, List.map_cons, List.map_nil, ↓reduceIte, Bool.false_eq_true, and_true, true_and, D.str.injEq, D.int.injEq, D.ref.injEq, D.tup.injEq, D.bl.injEq]
  refine ⟨by simp [sizeLine_eq], fun q hq => ?_⟩
  have hp' := Keep.new (o := .lst [D.int 0]) hq _ _ hp
  refine ⟨p, _, .int knots, rfl, hp', look_knots, ?_⟩
  refine ⟨_, up_same, k0, by omega, by rw [sizeLine_eq]; simp; omega, fun q2 hq2 => ?_⟩
  refine len_l up_same ?_
  rw [rep_len]
  rw [Int.toNat_of_nonneg k0]
  exact h _ ((Keep.new hq).trans (.new hq2))
theorem dep_tie (nm : Str) (is : List Int) : (py (tie nm is)).depth ≤ 2 := dep_le (n := 1) fun d hd => by
  rcases List.mem_cons.mp hd with rfl | hd
  · simp [py, PyData.depth]
  · obtain ⟨i, _, rfl⟩ := List.mem_map.mp hd
    simp [py, PyData.depth]
theorem plain_tie (nm : Str) (is : List Int) : plain (tie nm is) = true := (cmpP_tie nm nm is is).1
theorem plains_of : ∀ {ds : List D}, (∀ d ∈ ds, plain d = true) → plains ds = true
  | [], _ => rfl
  | d :: ds, h => by
    show (plain d && plains ds) = true
    rw [h d List.mem_cons_self, plains_of fun e he => h e (List.mem_cons_of_mem _ he)]; rfl
theorem TiesOk.good {knots : Int} {n : Nat} {xs : List D} (h : TiesOk knots n xs) : ∀ x ∈ xs, plain x = true ∧ lay x ∧ (py x).depth ≤ 2 := fun x hx => by
  obtain ⟨nm, is, rfl, _, hn, _⟩ := h.each x hx
  exact ⟨plain_tie nm is, lay_tie hn, dep_tie nm is⟩
def netT (knots : Int) (ls bs : List D) : D := .tup [.int knots, .tup ls, .tup bs]
theorem NetOk.good {knots : Int} {ls bs : List D} (h : NetOk knots ls bs) : plain (netT knots ls bs) = true ∧ lay (netT knots ls bs) ∧ (py (netT knots ls bs)).depth ≤ 4 := by
  have p1 : plain (.tup ls) = true := plains_of fun d hd => (h.lk.good d hd).1
  have p2 : plain (.tup bs) = true := plains_of fun d hd => (h.lb.good d hd).1
  have l1 : lay (.tup ls) := lay_tup fun d hd => (h.lk.good d hd).2.1
  have l2 : lay (.tup bs) := lay_tup fun d hd => (h.lb.good d hd).2.1
  have d1 : (py (.tup ls)).depth ≤ 3 := dep_le fun d hd => (h.lk.good d hd).2.2
  have d2 : (py (.tup bs)).depth ≤ 3 := dep_le fun d hd => (h.lb.good d hd).2.2
  have three : ∀ {P : D → Prop}, P (.int knots) → P (.tup ls) → P (.tup bs) → ∀ d ∈ [D.int knots, .tup ls, .tup bs], P d := fun a b c d hd => by
    simp at hd
    rcases hd with rfl | rfl | rfl
    · exact a
    · exact b
    · exact c
  exact ⟨plains_of (three rfl p1 p2), lay_tup (three (lay_int _) l1 l2), dep_le (three (by simp [py, PyData.depth]) d1 d2)⟩
def S_Net_eq (c : Cs) : Spec := fun ds M Q => ∃ a b knots ls bs, ds = [.ref a, .ref b] ∧ M a = some (.ins c.Net (netF (.int knots) (.tup ls) (.tup bs))) ∧ M b = some (.ins c.Net (netF (.int knots) (.tup ls) (.tup bs))) ∧ NetOk knots ls bs ∧ Q (.bl true) M
abbrev N_Net_eq : List Str := ["self", "other"]
def ir_Net_eq (c : Cs) : Ss := (.cons (.ife (.not_ (.isa (.var 1) (.own "Net" c.Net) (isaO c c.Net))) (.cons (.ret (.bl false)) .nil) .nil) (.cons (.ret (.cmp .Eq (.tup (.cons (.fld (.var 0) c.Net "knots") (.cons (.fld (.var 0) c.Net "links") (.cons (.fld (.var 0) c.Net "labels") .nil)))) (.tup (.cons (.fld (.var 1) c.Net "knots") (.cons (.fld (.var 1) c.Net "links") (.cons (.fld (.var 1) c.Net "labels") .nil)))))) .nil))
theorem isaO_yes {c : Cs} {C a : Addr} {fs : List (Str × D)} {M : Mp} (h : M a = some (.ins C fs)) : isaO c C (.ref a) M = some true := by
  unfold isaO insOf
  simp [h]
theorem wp_Net_eq (c : Cs) {a b : Addr} {knots : Int} {ls bs : List D} {M : Mp} {Q : DQ} (ha : M a = some (.ins c.Net (netF (.int knots) (.tup ls) (.tup bs)))) (hb : M b = some (.ins c.Net (netF (.int knots) (.tup ls) (.tup bs)))) (ok : NetOk knots ls bs) (h : Q (.bl true) M) :
    (ir_Net_eq c).wp (bodyEnds Q) [some (.ref a), some (.ref b)] M := by
  simp only [ir_Net_eq, Ss.wp, S.wp, E.wp, E.wpT, Es.wp, Es.wpV, Es.wpT, Oe.wpO, Oe.wpT, Wk.wp, wSeq, wRet, wRetN, wNext, wNever, wDrop, wAsg, wIfS, wFor, wPar, wPar3, wFldS, wSetI, wSetK, wDnew, wMeth, wBm, wAndV, wOrV, wNotV, wAnd, wOr, wNot, wTest, wTru, wIf, w1, w2, w3, wVar, wC, wNil, wCons, wTup, wLst, wCall, wCallK, wO0, wO1, wSl, wLc, wISeq, wIR1, wIR2, wIZip, wIStr, wIEn, wDc, DcK.emp, Wk.wp, binF, cmpF, isaD, negD, Blt.spec, Bm.spec, Bm.ty, List.getElem?_cons_zero, List.getElem?_cons_succ, Option.some.injEq, exists_eq_left', exists_eq_left, exists_and_left, List.set_cons_zero, List.set_cons_succ, asn_name, asn_tup, asns_nil, asns_name, wipeD, tru_bl, tru_int, tru_non, tru_tup, bodyEnds, List.map_cons, List.map_nil, ↓reduceIte, Bool.false_eq_true, and_true, true_and, D.str.injEq, D.int.injEq, D.ref.injEq, D.tup.injEq, D.bl.injEq]
  refine ⟨true, isaO_yes hb, ?_⟩
  simp only [Bool.not_true, Bool.false_eq_true, if_false]
  refine ⟨a, _, _, rfl, ha, look_knots, a, _, _, rfl, ha, look_links, a, _, _, rfl, ha, look_labels, ?_⟩
  refine ⟨by simp [sizeLine_eq], b, _, _, rfl, hb, look_knots, b, _, _, rfl, hb, look_links, b, _, _, rfl, hb, look_labels, by simp [sizeLine_eq], ?_⟩
  obtain ⟨g1, g2, g3⟩ := ok.good
  exact eq_self (d := netT knots ls bs) g1 g2 (Nat.le_trans g3 (by decide)) h
/-! ### is_net_of -/
def houseF (m r l p q : D) : List (Str × D) := [("many", m), ("rules", r), ("lists", l), ("pairs_by", p), ("marks_by", q)]
theorem look_many {m r l p q : D} : (houseF m r l p q).lookup ("many" : Str) = some m := by
  unfold houseF; rw [List.lookup_cons, show (("many" : Str) == ("many" : Str)) = true by decide +kernel]
theorem look_rules {m r l p q : D} : (houseF m r l p q).lookup ("rules" : Str) = some r := by
  unfold houseF; rw [List.lookup_cons, show (("rules" : Str) == ("many" : Str)) = false by decide +kernel]
  show List.lookup _ _ = _
  rw [List.lookup_cons, show (("rules" : Str) == ("rules" : Str)) = true by decide +kernel]
theorem look_lists {m r l p q : D} : (houseF m r l p q).lookup ("lists" : Str) = some l := by
  unfold houseF; rw [List.lookup_cons, show (("lists" : Str) == ("many" : Str)) = false by decide +kernel]
  show List.lookup _ _ = _
  rw [List.lookup_cons, show (("lists" : Str) == ("rules" : Str)) = false by decide +kernel]
  show List.lookup _ _ = _
  rw [List.lookup_cons, show (("lists" : Str) == ("lists" : Str)) = true by decide +kernel]
/-- x is one of a list's (or tuple's) data -/
theorem in_yes {x y : D} {ds : List D} {M : Mp} {Q : DQ} (hs : seqD M y ds) (hx : x ∈ ds) (hp : ∀ d ∈ ds, plain d = true ∧ lay d) (hd : (py x).depth ≤ 64) (h : Q (.bl true) M) : inD false x y M Q := by
  refine .inl ⟨py x, ds, pys ds, .plain (hp x hx).1, hs, .plain (plains_of fun d hd => (hp d hd).1), shaped_py (hp x hx).2 hd, lays_of fun d hd => (hp d hd).2, ?_⟩
  have e : (pys ds).any (fun z => PyData.eqv z (py x)) = true := by
    rw [pys_map, List.any_map, List.any_eq_true]
    exact ⟨x, hx, SeqAt.eqv_refl _ (hp x hx).2⟩
  rw [e]
  exact h
def S_is_net_of (c : Cs) : Spec := fun ds M Q => ∃ hh t m p q k many rs ls ks bs, ds = [.ref hh, .ref t] ∧ M hh = some (.ins c.House (houseF m (.tup rs) (.tup ls) p q)) ∧ M t = some (.ins c.Net (netF k (.tup ks) (.tup bs))) ∧ RulesOk many rs ∧ ListsOk many ls ∧ ks.length ≤ sizeLine ∧ bs.length ≤ sizeLine ∧
  (∀ x ∈ ks, ∃ nm is, x = tie nm is ∧ .str nm ∈ rs.map nameD) ∧ (∀ x ∈ bs, ∃ nm is, x = tie nm is ∧ .str nm ∈ ls.map nameD) ∧ ∀ M', Keep M M' → Q (.bl true) M'
abbrev N_is_net_of : List Str := ["house", "thing", "rules", "lists", "label", "name", "pairs", "marks", "link"]
def ir_is_net_of (c : Cs) : Ss := (.cons (.ife (.not_ (.isa (.var 1) (.own "Net" c.Net) (isaO c c.Net))) (.cons (.ret (.bl false)) .nil) .nil) (.cons (.asg (.tup (.cons (.name 2) (.cons (.name 3) .nil))) (.tup (.cons (.lc [("name", 5), ("pairs", 6)] (.tup (.cons (.name 5) (.cons (.name 6) .nil))) (.seq (.fld (.var 0) c.House "rules")) .none (.var 5)) (.cons (.lc [("name", 5), ("marks", 7)] (.tup (.cons (.name 5) (.cons (.name 7) .nil))) (.seq (.fld (.var 0) c.House "lists")) .none (.var 5)) .nil)))) (.cons (.ife (.not_ (.bcall .all (.cons (.lc [("link", 8)] (.name 8) (.seq (.fld (.var 1) c.Net "links")) .none (.cmp .In (.idx (.var 8) (.int 0)) (.var 2))) .nil))) (.cons (.ret (.bl false)) .nil) .nil) (.cons (.ret (.bcall .all (.cons (.lc [("label", 4)] (.name 4) (.seq (.fld (.var 1) c.Net "labels")) .none (.cmp .In (.idx (.var 4) (.int 0)) (.var 3))) .nil))) .nil))))
theorem wp_is_net_of (c : Cs) {hh t : Addr} {m p q k : D} {many : Int} {rs ls ks bs : List D} {M : Mp} {Q : DQ} (zk : ks.length ≤ sizeLine) (zb : bs.length ≤ sizeLine) (h1 : M hh = some (.ins c.House (houseF m (.tup rs) (.tup ls) p q))) (h2 : M t = some (.ins c.Net (netF k (.tup ks) (.tup bs)))) (hr : RulesOk many rs) (hl : ListsOk many ls)
    (hk : ∀ x ∈ ks, ∃ nm is, x = tie nm is ∧ .str nm ∈ rs.map nameD) (hb : ∀ x ∈ bs, ∃ nm is, x = tie nm is ∧ .str nm ∈ ls.map nameD) (h : ∀ M', Keep M M' → Q (.bl true) M') :
    (ir_is_net_of c).wp (bodyEnds Q) [some (.ref hh), some (.ref t), none, none, none, none, none, none, none] M := by
  have zr : rs.length ≤ sizeLine := by have := hr.len; rw [sizeLine_eq]; omega
  have zl : ls.length ≤ sizeLine := by have := hl.len; rw [sizeLine_eq]; omega
  have good : ∀ {xs : List D}, (∀ x ∈ xs, called x) → ∀ d ∈ xs.map nameD, plain d = true ∧ lay d := fun hc d hd => by
    obtain ⟨x, hx, rfl⟩ := List.mem_map.mp hd
    obtain ⟨nm, e, rfl, hn⟩ := hc x hx
    exact ⟨rfl, lay_name hn⟩
  simp only [ir_is_net_of, Ss.wp, S.wp, E.wp, E.wpT, Es.wp, Es.wpV, Es.wpT, Oe.wpO, Oe.wpT, Wk.wp, wSeq, wRet, wRetN, wNext, wNever, wDrop, wAsg, wIfS, wFor, wPar, wPar3, wFldS, wSetI, wSetK, wDnew, wMeth, wBm, wAndV, wOrV, wNotV, wAnd, wOr, wNot, wTest, wTru, wIf, w1, w2, w3, wVar, wC, wNil, wCons, wTup, wLst, wCall, wCallK, wO0, wO1, wSl, wLc, wISeq, wIR1, wIR2, wIZip, wIStr, wIEn, wDc, DcK.emp, Wk.wp, binF, cmpF, isaD, negD, Blt.spec, Bm.spec, Bm.ty, List.getElem?_cons_zero, List.getElem?_cons_succ, Option.some.injEq, exists_eq_left', exists_eq_left, exists_and_left, List.set_cons_zero, List.set_cons_succ, asn_name, asn_tup, asns_nil, asns_name, wipeD, tru_bl, tru_int, tru_non, tru_tup, bodyEnds, List.map_cons, List.map_nil, ↓reduceIte, Bool.false_eq_true, and_true, true_and, D.str.injEq, D.int.injEq, D.ref.injEq, D.tup.injEq, D.bl.injEq]
  refine ⟨true, isaO_yes h2, ?_⟩
  simp only [Bool.not_true, Bool.false_eq_true, if_false]
  refine ⟨hh, _, _, rfl, h1, look_rules, _, seqT_t, zr, ?_⟩
  refine lcGo_map (T := ⟨rs, fun _ => True⟩) (M0 := M) (fun x => some (nameD x)) (fun _ _ => trivial) rs M (.refl _) (fun x hx acc M3 kk k3 hkk => ?_) fun M3 k3 p3 hp3 => ?_
  · obtain ⟨nm, e, rfl, hn⟩ := hr.called x hx
    refine ⟨_, rfl, yes_if ?_⟩
    simp only [Ss.wp, S.wp, E.wp, E.wpT, Es.wp, Es.wpV, Es.wpT, Oe.wpO, Oe.wpT, Wk.wp, wSeq, wRet, wRetN, wNext, wNever, wDrop, wAsg, wIfS, wFor, wPar, wPar3, wFldS, wSetI, wSetK, wDnew, wMeth, wBm, wAndV, wOrV, wNotV, wAnd, wOr, wNot, wTest, wTru, wIf, w1, w2, w3, wVar, wC, wNil, wCons, wTup, wLst, wCall, wCallK, wO0, wO1, wSl, wLc, wISeq, wIR1, wIR2, wIZip, wIStr, wIEn, wDc, DcK.emp, Wk.wp, binF, cmpF, isaD, negD, Blt.spec, Bm.spec, Bm.ty, List.getElem?_cons_zero, List.getElem?_cons_succ, Option.some.injEq, exists_eq_left', exists_eq_left, exists_and_left, List.set_cons_zero, List.set_cons_succ, asn_name, asn_tup, asns_nil, asns_name, wipeD, tru_bl, tru_int, tru_non, tru_tup, bodyEnds, List.map_cons, List.map_nil, ↓reduceIte, Bool.false_eq_true, and_true, true_and, D.str.injEq, D.int.injEq, D.ref.injEq, D.tup.injEq, D.bl.injEq]
    exact hkk M3 k3
  rw [show rs.filterMap (fun x => some (nameD x)) = rs.map nameD by rw [List.filterMap_eq_map']]
  have k4 : Keep M (up M3 p3 (.lst (rs.map nameD))) := k3.trans (.new hp3)
  refine ⟨hh, _, _, rfl, k4 _ _ h1, look_lists, _, seqT_t, zl, ?_⟩
  generalize hM4 : up M3 p3 (.lst (rs.map nameD)) = M4 at k4
  have e4 : M4 p3 = some (.lst (rs.map nameD)) := by rw [← hM4]; exact up_same
  clear hM4
  refine lcGo_map (T := ⟨ls, fun _ => True⟩) (M0 := M4) (fun x => some (nameD x)) (fun _ _ => trivial) ls M4 (.refl _) (fun x hx acc M5 kk k5 hkk => ?_) fun M5 k5 p5 hp5 => ?_
  · obtain ⟨nm, e, rfl, hn⟩ := hl.called x hx
    refine ⟨_, rfl, yes_if ?_⟩
    simp only [Ss.wp, S.wp, E.wp, E.wpT, Es.wp, Es.wpV, Es.wpT, Oe.wpO, Oe.wpT, Wk.wp, wSeq, wRet, wRetN, wNext, wNever, wDrop, wAsg, wIfS, wFor, wPar, wPar3, wFldS, wSetI, wSetK, wDnew, wMeth, wBm, wAndV, wOrV, wNotV, wAnd, wOr, wNot, wTest, wTru, wIf, w1, w2, w3, wVar, wC, wNil, wCons, wTup, wLst, wCall, wCallK, wO0, wO1, wSl, wLc, wISeq, wIR1, wIR2, wIZip, wIStr, wIEn, wDc, DcK.emp, Wk.wp, binF, cmpF, isaD, negD, Blt.spec, Bm.spec, Bm.ty, List.getElem?_cons_zero, List.getElem?_cons_succ, Option.some.injEq, exists_eq_left', exists_eq_left, exists_and_left, List.set_cons_zero, List.set_cons_succ, asn_name, asn_tup, asns_nil, asns_name, wipeD, tru_bl, tru_int, tru_non, tru_tup, bodyEnds, List.map_cons, List.map_nil, ↓reduceIte, Bool.false_eq_true, and_true, true_and, D.str.injEq, D.int.injEq, D.ref.injEq, D.tup.injEq, D.bl.injEq]
    exact hkk M5 k5
  rw [show ls.filterMap (fun x => some (nameD x)) = ls.map nameD by rw [List.filterMap_eq_map']]
  have k6 : Keep M4 (up M5 p5 (.lst (ls.map nameD))) := k5.trans (.new hp5)
  generalize hM6 : up M5 p5 (.lst (ls.map nameD)) = M6 at k6
  have e6 : M6 p5 = some (.lst (ls.map nameD)) := by rw [← hM6]; exact up_same
  clear hM6
  refine ⟨by simp [sizeLine_eq], ?_⟩
  refine ⟨t, _, _, rfl, k6 _ _ (k4 _ _ h2), look_links, _, seqT_t, zk, ?_⟩
  refine all_go (T := ⟨ks, fun _ => True⟩) (fun _ => true) (fun _ _ => trivial) (fun x hx M7 kk k7 hkk => ⟨_, rfl, ?_⟩) fun M7 k7 => ?_
  · obtain ⟨nm, is, rfl, hm⟩ := hk x hx
    simp only [Ss.wp, S.wp, E.wp, E.wpT, Es.wp, Es.wpV, Es.wpT, Oe.wpO, Oe.wpT, Wk.wp, wSeq, wRet, wRetN, wNext, wNever, wDrop, wAsg, wIfS, wFor, wPar, wPar3, wFldS, wSetI, wSetK, wDnew, wMeth, wBm, wAndV, wOrV, wNotV, wAnd, wOr, wNot, wTest, wTru, wIf, w1, w2, w3, wVar, wC, wNil, wCons, wTup, wLst, wCall, wCallK, wO0, wO1, wSl, wLc, wISeq, wIR1, wIR2, wIZip, wIStr, wIEn, wDc, DcK.emp, Wk.wp, binF, cmpF, isaD, negD, Blt.spec, Bm.spec, Bm.ty, List.getElem?_cons_zero, List.getElem?_cons_succ, Option.some.injEq, exists_eq_left', exists_eq_left, exists_and_left, List.set_cons_zero, List.set_cons_succ, asn_name, asn_tup, asns_nil, asns_name, wipeD, tru_bl, tru_int, tru_non, tru_tup, bodyEnds, List.map_cons, List.map_nil, ↓reduceIte, Bool.false_eq_true, and_true, true_and, D.str.injEq, D.int.injEq, D.ref.injEq, D.tup.injEq, D.bl.injEq]
    refine ix_t 0 rfl ?_
    exact in_yes (.inr ⟨p3, rfl, k7 _ _ (k6 _ _ e4)⟩) hm (good hr.called) (by simp [py, PyData.depth]) (hkk M7 k7)
  rw [show (ks.all fun _ => true) = true by simp]
  refine ⟨true, rfl, ?_⟩
  simp only [Bool.not_true, Bool.false_eq_true, if_false]
  refine ⟨t, _, _, rfl, k7 _ _ (k6 _ _ (k4 _ _ h2)), look_labels, _, seqT_t, zb, ?_⟩
  refine all_go (T := ⟨bs, fun _ => True⟩) (fun _ => true) (fun _ _ => trivial) (fun x hx M8 kk k8 hkk => ⟨_, rfl, ?_⟩) fun M8 k8 => ?_
  · obtain ⟨nm, is, rfl, hm⟩ := hb x hx
    simp only [Ss.wp, S.wp, E.wp, E.wpT, Es.wp, Es.wpV, Es.wpT, Oe.wpO, Oe.wpT, Wk.wp, wSeq, wRet, wRetN, wNext, wNever, wDrop, wAsg, wIfS, wFor, wPar, wPar3, wFldS, wSetI, wSetK, wDnew, wMeth, wBm, wAndV, wOrV, wNotV, wAnd, wOr, wNot, wTest, wTru, wIf, w1, w2, w3, wVar, wC, wNil, wCons, wTup, wLst, wCall, wCallK, wO0, wO1, wSl, wLc, wISeq, wIR1, wIR2, wIZip, wIStr, wIEn, wDc, DcK.emp, Wk.wp, binF, cmpF, isaD, negD, Blt.spec, Bm.spec, Bm.ty, List.getElem?_cons_zero, List.getElem?_cons_succ, Option.some.injEq, exists_eq_left', exists_eq_left, exists_and_left, List.set_cons_zero, List.set_cons_succ, asn_name, asn_tup, asns_nil, asns_name, wipeD, tru_bl, tru_int, tru_non, tru_tup, bodyEnds, List.map_cons, List.map_nil, ↓reduceIte, Bool.false_eq_true, and_true, true_and, D.str.injEq, D.int.injEq, D.ref.injEq, D.tup.injEq, D.bl.injEq]
    refine ix_t 0 rfl ?_
    exact in_yes (.inr ⟨p5, rfl, k8 _ _ (k7 _ _ e6)⟩) hm (good hl.called) (by simp [py, PyData.depth]) (hkk M8 k8)
  rw [show (bs.all fun _ => true) = true by simp]
  exact h M8 (k4.trans (k6.trans (k7.trans k8)))
end DL

set_option Elab.async false
set_option linter.all false
set_option maxRecDepth 100000
set_option maxHeartbeats 4000000
/-! W4: sets. -/
namespace DL
open PySem L2
/-- loops by an invariant, the place known -/
theorem forGo_pos {T : DIt} {g : Tg} {wb : WS} {D0 : DEnds} (J : List D → Ro → Mp → Prop) (keep : ∀ done ρ M, J done ρ M → T.keep M) : ∀ (todo done : List D) (ρ : Ro) (M : Mp), J done ρ M →
    (∀ x pre post, todo = pre ++ x :: post → ∀ ρ M (k : Ro → Mp → Prop), J (done ++ pre) ρ M → (∀ ρ' M', J (done ++ pre ++ [x]) ρ' M' → k ρ' M') → ∃ ρ1, g.asn x ρ = some ρ1 ∧ wb { D0 with nx := k, ct := k, bk := D0.nx } ρ1 M) →
    (∀ ρ M, J (done ++ todo) ρ M → D0.nx ρ M) → forGo T g wb D0 todo ρ M
  | [], done, ρ, M, h, _, hf => by
    unfold forGo
    exact ⟨keep _ _ _ h, hf ρ M (by rw [List.append_nil]; exact h)⟩
  | x :: xs, done, ρ, M, h, hs, hf => by
    unfold forGo
    refine ⟨keep _ _ _ h, hs x [] xs rfl ρ M (forGo T g wb D0 xs) (by rw [List.append_nil]; exact h) fun ρ' M' h' => ?_⟩
    rw [List.append_nil] at h'
    refine forGo_pos J keep xs (done ++ [x]) ρ' M' h' (fun y pre post e => ?_) fun ρ M h => hf ρ M (by rw [List.append_assoc] at h; exact h)
    have := hs y (x :: pre) post (by rw [e]; rfl)
    simpa [List.append_assoc] using this
/-! ### are_laid -/
def inB (a b : D) (prs : List D) : Bool := (pys prs).any fun z => PyData.eqv z (py (.tup [a, b]))
def besideB (prs one other : List D) : Bool := (one.all fun a => other.any fun b => inB a b prs) && (other.all fun b => one.any fun a => inB a b prs)
def numsD (xs : List D) : Prop := ∀ x ∈ xs, ∃ i, x = .int i
def prsI (xs : List D) : Prop := ∀ x ∈ xs, ∃ i j, x = .tup [.int i, .int j]
theorem in_pair {i j : Int} {prs : List D} {M : Mp} {Q : DQ} (hp : prsI prs) (h : Q (.bl (inB (.int i) (.int j) prs)) M) : inD false (.tup [.int i, .int j]) (.tup prs) M Q := by
  have pl : ∀ d ∈ prs, plain d = true ∧ lay d := fun d hd => by
    obtain ⟨a, b, rfl⟩ := hp d hd
    exact ⟨rfl, lay_tup fun z hz => by
      rcases List.mem_cons.mp hz with rfl | hz
      · exact lay_int _
      · rw [List.mem_singleton.mp hz]; exact lay_int _⟩
  refine .inl ⟨py (.tup [.int i, .int j]), prs, pys prs, .plain rfl, .inl rfl, .plain (plains_of fun d hd => (pl d hd).1), shaped_py (lay_tup fun z hz => ?_) (by simp [py, pys, PyData.depth, PyData.depthAll]), lays_of fun d hd => (pl d hd).2, h⟩
  rcases List.mem_cons.mp hz with rfl | hz
  · exact lay_int _
  · rw [List.mem_singleton.mp hz]; exact lay_int _
def S_are_laid (_ : Cs) : Spec := fun ds M Q => ∃ prs one other, ds = [.tup prs, .tup one, .tup other] ∧ prsI prs ∧ numsD one ∧ numsD other ∧ ∀ M', Keep M M' → Q (.bl (besideB prs one other)) M'
abbrev N_are_laid : List Str := ["pairs", "one", "other", "mate", "mark"]
def ir_are_laid (c : Cs) : Ss := (.cons (.ife (.not_ (.bcall .all (.cons (.lc [("mark", 4)] (.name 4) (.seq (.var 1)) .none (.bcall .any (.cons (.lc [("mate", 3)] (.name 3) (.seq (.var 2)) .none (.cmp .In (.tup (.cons (.var 4) (.cons (.var 3) .nil))) (.var 0))) .nil))) .nil))) (.cons (.ret (.bl false)) .nil) .nil) (.cons (.ret (.bcall .all (.cons (.lc [("mate", 3)] (.name 3) (.seq (.var 2)) .none (.bcall .any (.cons (.lc [("mark", 4)] (.name 4) (.seq (.var 1)) .none (.cmp .In (.tup (.cons (.var 4) (.cons (.var 3) .nil))) (.var 0))) .nil))) .nil))) .nil))
theorem wp_are_laid (c : Cs) {prs one other : List D} {M : Mp} {Q : DQ} (z1 : one.length ≤ sizeLine) (z2 : other.length ≤ sizeLine) (hp : prsI prs) (h1 : numsD one) (h2 : numsD other) (h : ∀ M', Keep M M' → Q (.bl (besideB prs one other)) M') :
    (ir_are_laid c).wp (bodyEnds Q) [some (.tup prs), some (.tup one), some (.tup other), none, none] M := by
  simp only [ir_are_laid, Ss.wp, S.wp, E.wp, E.wpT, Es.wp, Es.wpV, Es.wpT, Oe.wpO, Oe.wpT, Wk.wp, wSeq, wRet, wRetN, wNext, wNever, wDrop, wAsg, wIfS, wFor, wPar, wPar3, wFldS, wSetI, wSetK, wDnew, wMeth, wBm, wAndV, wOrV, wNotV, wAnd, wOr, wNot, wTest, wTru, wIf, w1, w2, w3, wVar, wC, wNil, wCons, wTup, wLst, wCall, wCallK, wO0, wO1, wSl, wLc, wISeq, wIR1, wIR2, wIZip, wIStr, wIEn, wDc, DcK.emp, Wk.wp, binF, cmpF, isaD, negD, Blt.spec, Bm.spec, Bm.ty, List.getElem?_cons_zero, List.getElem?_cons_succ, Option.some.injEq, exists_eq_left', exists_eq_left, exists_and_left, List.set_cons_zero, List.set_cons_succ, asn_name, asn_tup, asns_nil, asns_name, wipeD, tru_bl, tru_int, tru_non, tru_tup, bodyEnds, List.map_cons, List.map_nil, ↓reduceIte, Bool.false_eq_true, and_true, true_and, D.str.injEq, D.int.injEq, D.ref.injEq, D.tup.injEq, D.bl.injEq]
  refine ⟨_, seqT_t, z1, ?_⟩
  refine all_go (T := ⟨one, fun _ => True⟩) (fun a => other.any fun b => inB a b prs) (fun _ _ => trivial) (fun x hx M1 k k1 hk => ⟨_, rfl, ?_⟩) fun M1 k1 => ?_
  · obtain ⟨i, rfl⟩ := h1 x hx
    simp only [Ss.wp, S.wp, E.wp, E.wpT, Es.wp, Es.wpV, Es.wpT, Oe.wpO, Oe.wpT, Wk.wp, wSeq, wRet, wRetN, wNext, wNever, wDrop, wAsg, wIfS, wFor, wPar, wPar3, wFldS, wSetI, wSetK, wDnew, wMeth, wBm, wAndV, wOrV, wNotV, wAnd, wOr, wNot, wTest, wTru, wIf, w1, w2, w3, wVar, wC, wNil, wCons, wTup, wLst, wCall, wCallK, wO0, wO1, wSl, wLc, wISeq, wIR1, wIR2, wIZip, wIStr, wIEn, wDc, DcK.emp, Wk.wp, binF, cmpF, isaD, negD, Blt.spec, Bm.spec, Bm.ty, List.getElem?_cons_zero, List.getElem?_cons_succ, Option.some.injEq, exists_eq_left', exists_eq_left, exists_and_left, List.set_cons_zero, List.set_cons_succ, asn_name, asn_tup, asns_nil, asns_name, wipeD, tru_bl, tru_int, tru_non, tru_tup, bodyEnds, List.map_cons, List.map_nil, ↓reduceIte, Bool.false_eq_true, and_true, true_and, D.str.injEq, D.int.injEq, D.ref.injEq, D.tup.injEq, D.bl.injEq]
    refine ⟨_, seqT_t, z2, ?_⟩
    refine any_go (T := ⟨other, fun _ => True⟩) (fun b => inB (.int i) b prs) (fun _ _ => trivial) (fun y hy M2 k' k2 hk' => ⟨_, rfl, ?_⟩) fun M2 k2 => hk M2 (k1.trans k2)
    obtain ⟨j, rfl⟩ := h2 y hy
    simp only [Ss.wp, S.wp, E.wp, E.wpT, Es.wp, Es.wpV, Es.wpT, Oe.wpO, Oe.wpT, Wk.wp, wSeq, wRet, wRetN, wNext, wNever, wDrop, wAsg, wIfS, wFor, wPar, wPar3, wFldS, wSetI, wSetK, wDnew, wMeth, wBm, wAndV, wOrV, wNotV, wAnd, wOr, wNot, wTest, wTru, wIf, w1, w2, w3, wVar, wC, wNil, wCons, wTup, wLst, wCall, wCallK, wO0, wO1, wSl, wLc, wISeq, wIR1, wIR2, wIZip, wIStr, wIEn, wDc, DcK.emp, Wk.wp, binF, cmpF, isaD, negD, Blt.spec, Bm.spec, Bm.ty, List.getElem?_cons_zero, List.getElem?_cons_succ, Option.some.injEq, exists_eq_left', exists_eq_left, exists_and_left, List.set_cons_zero, List.set_cons_succ, asn_name, asn_tup, asns_nil, asns_name, wipeD, tru_bl, tru_int, tru_non, tru_tup, bodyEnds, List.map_cons, List.map_nil, ↓reduceIte, Bool.false_eq_true, and_true, true_and, D.str.injEq, D.int.injEq, D.ref.injEq, D.tup.injEq, D.bl.injEq]
    exact ⟨by simp [sizeLine_eq], in_pair hp (hk' M2 k2)⟩
  refine ⟨_, rfl, ?_⟩
  by_cases ha : (one.all fun a => other.any fun b => inB a b prs) = true
  · simp only [ha, Bool.not_true, Bool.false_eq_true, if_false]
    refine ⟨_, seqT_t, z2, ?_⟩
    refine all_go (T := ⟨other, fun _ => True⟩) (fun b => one.any fun a => inB a b prs) (fun _ _ => trivial) (fun x hx M2 k k2 hk => ⟨_, rfl, ?_⟩) fun M2 k2 => ?_
    · obtain ⟨i, rfl⟩ := h2 x hx
      simp only [Ss.wp, S.wp, E.wp, E.wpT, Es.wp, Es.wpV, Es.wpT, Oe.wpO, Oe.wpT, Wk.wp, wSeq, wRet, wRetN, wNext, wNever, wDrop, wAsg, wIfS, wFor, wPar, wPar3, wFldS, wSetI, wSetK, wDnew, wMeth, wBm, wAndV, wOrV, wNotV, wAnd, wOr, wNot, wTest, wTru, wIf, w1, w2, w3, wVar, wC, wNil, wCons, wTup, wLst, wCall, wCallK, wO0, wO1, wSl, wLc, wISeq, wIR1, wIR2, wIZip, wIStr, wIEn, wDc, DcK.emp, Wk.wp, binF, cmpF, isaD, negD, Blt.spec, Bm.spec, Bm.ty, List.getElem?_cons_zero, List.getElem?_cons_succ, Option.some.injEq, exists_eq_left', exists_eq_left, exists_and_left, List.set_cons_zero, List.set_cons_succ, asn_name, asn_tup, asns_nil, asns_name, wipeD, tru_bl, tru_int, tru_non, tru_tup, bodyEnds, List.map_cons, List.map_nil, ↓reduceIte, Bool.false_eq_true, and_true, true_and, D.str.injEq, D.int.injEq, D.ref.injEq, D.tup.injEq, D.bl.injEq]
      refine ⟨_, seqT_t, z1, ?_⟩
      refine any_go (T := ⟨one, fun _ => True⟩) (fun a => inB a (.int i) prs) (fun _ _ => trivial) (fun y hy M3 k' k3 hk' => ⟨_, rfl, ?_⟩) fun M3 k3 => hk M3 (k2.trans k3)
      obtain ⟨j, rfl⟩ := h1 y hy
      simp only [Ss.wp, S.wp, E.wp, E.wpT, Es.wp, Es.wpV, Es.wpT, Oe.wpO, Oe.wpT, Wk.wp, wSeq, wRet, wRetN, wNext, wNever, wDrop, wAsg, wIfS, wFor, wPar, wPar3, wFldS, wSetI, wSetK, wDnew, wMeth, wBm, wAndV, wOrV, wNotV, wAnd, wOr, wNot, wTest, wTru, wIf, w1, w2, w3, wVar, wC, wNil, wCons, wTup, wLst, wCall, wCallK, wO0, wO1, wSl, wLc, wISeq, wIR1, wIR2, wIZip, wIStr, wIEn, wDc, DcK.emp, Wk.wp, binF, cmpF, isaD, negD, Blt.spec, Bm.spec, Bm.ty, List.getElem?_cons_zero, List.getElem?_cons_succ, Option.some.injEq, exists_eq_left', exists_eq_left, exists_and_left, List.set_cons_zero, List.set_cons_succ, asn_name, asn_tup, asns_nil, asns_name, wipeD, tru_bl, tru_int, tru_non, tru_tup, bodyEnds, List.map_cons, List.map_nil, ↓reduceIte, Bool.false_eq_true, and_true, true_and, D.str.injEq, D.int.injEq, D.ref.injEq, D.tup.injEq, D.bl.injEq]
      exact ⟨by simp [sizeLine_eq], in_pair hp (hk' M3 k3)⟩
    · have q := h M2 (k1.trans k2)
      unfold besideB at q
      rw [ha, Bool.true_and] at q
      exact q
  · rw [Bool.not_eq_true] at ha
    simp only [ha, Bool.not_false, if_true]
    have q := h M1 k1
    unfold besideB at q
    rw [ha, Bool.false_and] at q
    exact q
def S_l_beside (_ : Cs) : Spec := fun ds M Q => ∃ prs one other, ds = [.tup prs, .tup one, .tup other] ∧ prsI prs ∧ numsD one ∧ numsD other ∧ ∀ M', Keep M M' → Q (.bl (besideB prs one other)) M'
abbrev N_l_beside : List Str := ["_law_laid", "_law_one", "_law_other", "_law_b", "_law_a"]
def ir_l_beside (c : Cs) : Ss := (.cons (.ife (.not_ (.bcall .all (.cons (.lc [("_law_a", 4)] (.name 4) (.seq (.var 1)) .none (.bcall .any (.cons (.lc [("_law_b", 3)] (.name 3) (.seq (.var 2)) .none (.cmp .In (.tup (.cons (.var 4) (.cons (.var 3) .nil))) (.var 0))) .nil))) .nil))) (.cons (.ret (.bl false)) .nil) .nil) (.cons (.ret (.bcall .all (.cons (.lc [("_law_b", 3)] (.name 3) (.seq (.var 2)) .none (.bcall .any (.cons (.lc [("_law_a", 4)] (.name 4) (.seq (.var 1)) .none (.cmp .In (.tup (.cons (.var 4) (.cons (.var 3) .nil))) (.var 0))) .nil))) .nil))) .nil))
theorem wp_l_beside (c : Cs) {prs one other : List D} {M : Mp} {Q : DQ} (z1 : one.length ≤ sizeLine) (z2 : other.length ≤ sizeLine) (hp : prsI prs) (h1 : numsD one) (h2 : numsD other) (h : ∀ M', Keep M M' → Q (.bl (besideB prs one other)) M') :
    (ir_l_beside c).wp (bodyEnds Q) [some (.tup prs), some (.tup one), some (.tup other), none, none] M := by
  have q := wp_are_laid c z1 z2 hp h1 h2 h
  simp only [ir_are_laid, E.wp, S.wp, Ss.wp, E.wpT, Es.wp, List.map_cons, List.map_nil] at q
  simp only [ir_l_beside, E.wp, S.wp, Ss.wp, E.wpT, Es.wp, List.map_cons, List.map_nil]
  exact q
/-! ### sets -/
def addM (x : D) : D → D
  | .tup ys => .tup (ys ++ [x])
  | d => d
def foundG (ms : List D) : List D := ms.foldl (fun f x => f ++ f.map (addM x)) [.tup []]
theorem found_snoc (ms : List D) (x : D) : foundG (ms ++ [x]) = foundG ms ++ (foundG ms).map (addM x) := by
  unfold foundG; rw [List.foldl_append]; rfl
/-- tuples of numbers -/
def setD (d : D) : Prop := ∃ is : List Int, d = .tup (is.map D.int)
theorem found_ok : ∀ (n : Nat) (ms : List D), ms.length = n → numsD ms → (∃ r, foundG ms = .tup [] :: r) ∧ (foundG ms).length = 2 ^ n ∧ ∀ d ∈ foundG ms, ∃ is : List Int, d = .tup (is.map D.int) ∧ is.length ≤ n
  | 0, ms, hl, _ => by
    obtain rfl := List.eq_nil_of_length_eq_zero hl
    refine ⟨⟨[], rfl⟩, rfl, fun d hd => ?_⟩
    obtain rfl : d = .tup [] := by simpa [foundG] using hd
    exact ⟨[], rfl, Nat.le_refl _⟩
  | n + 1, ms, hl, hn => by
    obtain ⟨xs, x, rfl⟩ : ∃ xs x, ms = xs ++ [x] := ⟨ms.dropLast, ms.getLast (by intro e; rw [e] at hl; cases hl), (List.dropLast_concat_getLast _).symm⟩
    have hx : xs.length = n := by simpa using hl
    obtain ⟨⟨r, e⟩, l, ih⟩ := found_ok n xs hx fun y hy => hn y (by simp [hy])
    obtain ⟨i, rfl⟩ := hn x (by simp)
    rw [found_snoc]
    refine ⟨⟨r ++ (foundG xs).map (addM (.int i)), by rw [e]; rfl⟩, by rw [List.length_append, List.length_map, l, Nat.pow_succ]; omega, fun d hd => ?_⟩
    rcases List.mem_append.mp hd with hd | hd
    · obtain ⟨is, a, b⟩ := ih d hd
      exact ⟨is, a, by omega⟩
    · obtain ⟨y, hy, rfl⟩ := List.mem_map.mp hd
      obtain ⟨is, rfl, b⟩ := ih y hy
      exact ⟨is ++ [i], by simp [addM], by simp; omega⟩
theorem rng_nums (n : Int) : numsD (rngI 0 n) := fun x hx => by
  unfold rngI at hx
  obtain ⟨i, _, rfl⟩ := List.mem_map.mp hx
  exact ⟨_, rfl⟩
theorem rng_len (n : Int) : (rngI 0 n).length = n.toNat := by unfold rngI; simp
def setsL (n : Int) : List D := (sortD (foundG (rngI 0 n))).drop 1
theorem mem_sort {x : D} {xs : List D} : x ∈ sortD xs ↔ x ∈ xs := by
  unfold sortD
  exact List.mem_mergeSort
theorem len_sort (xs : List D) : (sortD xs).length = xs.length := by
  unfold sortD
  exact List.length_mergeSort _
theorem sets_mem {n : Int} {d : D} (h : d ∈ setsL n) : setD d := by
  have h' := mem_sort.mp (List.mem_of_mem_drop h)
  obtain ⟨is, e, _⟩ := (found_ok _ _ rfl (rng_nums n)).2.2 d h'
  exact ⟨is, e⟩
theorem sets_len (n : Int) : (setsL n).length = 2 ^ n.toNat - 1 := by
  unfold setsL
  rw [List.length_drop, len_sort, (found_ok _ _ rfl (rng_nums n)).2.1, rng_len]
theorem cmpP_sets (is js : List Int) : PySem.W.alike (py (.tup (is.map D.int))) (py (.tup (js.map D.int))) = true := by
  simp [py, PySem.W.alike, alike_ints]
theorem sort_sets {a : Addr} {ms : List D} {M : Mp} {Q : DQ} (hn : numsD ms) (ha : M a = some (.lst (foundG ms))) (h : ∀ p, M p = none → Q (.ref p) (up M p (.lst (sortD (foundG ms))))) : sortedS [.ref a] M Q := by
  obtain ⟨⟨r, e⟩, _, ih⟩ := found_ok _ ms rfl hn
  refine ⟨a, _, rfl, ha, plains_of fun d hd => ?_, fun d hd d' hd' => ?_, .inr ⟨⟨r, e⟩, fun d hd => ?_⟩, fun d hd => ?_, h⟩
  · obtain ⟨is, rfl, _⟩ := ih d hd
    exact plains_ints is
  · obtain ⟨x, hx, rfl⟩ := List.mem_map.mp hd
    obtain ⟨y, hy, rfl⟩ := List.mem_map.mp hd'
    obtain ⟨is, rfl, _⟩ := ih x hx
    obtain ⟨js, rfl, _⟩ := ih y hy
    exact cmpP_sets is js
  · obtain ⟨is, rfl, _⟩ := ih d hd
    exact ⟨_, rfl⟩
  · obtain ⟨is, rfl, _⟩ := ih d hd
    have := depth_ints is
    simp [py, PyData.depth]
    omega
/-- the loop of both -/
theorem sets_loop {x0 : D} {n : Int} {M M1 : Mp} {a : Addr} {D0 : DEnds} (hn : 0 ≤ n) (hn4 : n ≤ 4) (k1 : Keep M M1) (ha : M1 a = some (.lst [.tup []]))
    (h : ∀ ρ M2 p v, Keep M M2 → M2 p = some (.lst (foundG (rngI 0 n))) → ρ = [some x0, some (.ref p), v, none] → D0.nx ρ M2) :
    forGo ⟨rngI 0 n, fun _ => True⟩ (.name 2) (wSeq (wAsg (w2 addD (wVar 1) (wLc (wISeq (wVar 1)) (.name 3) wYes (w2 addD (wVar 3) (wTup (wCons (wVar 2) wNil))) [3])) (.name 1)) wNext) D0 (rngI 0 n) [some x0, some (.ref a), none, none] M1 := by
  have hl4 : (rngI 0 n).length ≤ 4 := by rw [rng_len]; omega
  refine forGo_pos (T := ⟨rngI 0 n, fun _ => True⟩) (fun done ρ M2 => Keep M M2 ∧ ∃ p v, M2 p = some (.lst (foundG done)) ∧ ρ = [some x0, some (.ref p), v, none]) (fun _ _ _ _ => trivial) (rngI 0 n) [] _ M1 ⟨k1, a, none, ha, rfl⟩ (fun x pre post e ρ M2 k hJ hk => ?_) fun ρ M2 hJ => ?_
  · obtain ⟨k2, p, v, hp, rfl⟩ := hJ
    rw [List.nil_append] at hp hk
    have hx : ∃ i, x = .int i := rng_nums n x (by rw [e]; simp)
    have hpre : numsD pre := fun y hy => rng_nums n y (by rw [e]; simp [hy])
    obtain ⟨_, lf, ih⟩ := found_ok _ pre rfl hpre
    have hpl : pre.length ≤ 4 := by rw [e, List.length_append] at hl4; omega
    have hpow : 2 ^ pre.length ≤ 16 := Nat.pow_le_pow_right (by decide) hpl
    refine ⟨_, rfl, ?_⟩
    simp only [Ss.wp, S.wp, E.wp, E.wpT, Es.wp, Es.wpV, Es.wpT, Oe.wpO, Oe.wpT, Wk.wp, wSeq, wRet, wRetN, wNext, wNever, wDrop, wAsg, wIfS, wFor, wPar, wPar3, wFldS, wSetI, wSetK, wDnew, wMeth, wBm, wAndV, wOrV, wNotV, wAnd, wOr, wNot, wTest, wTru, wIf, w1, w2, w3, wVar, wC, wNil, wCons, wTup, wLst, wCall, wCallK, wO0, wO1, wSl, wLc, wISeq, wIR1, wIR2, wIZip, wIStr, wIEn, wDc, DcK.emp, Wk.wp, binF, cmpF, isaD, negD, Blt.spec, Bm.spec, Bm.ty, List.getElem?_cons_zero, List.getElem?_cons_succ, Option.some.injEq, exists_eq_left', exists_eq_left, exists_and_left, List.set_cons_zero, List.set_cons_succ, asn_name, asn_tup, asns_nil, asns_name, wipeD, tru_bl, tru_int, tru_non, tru_tup, bodyEnds, List.map_cons, List.map_nil, ↓reduceIte, Bool.false_eq_true, and_true, true_and, D.str.injEq, D.int.injEq, D.ref.injEq, D.tup.injEq, D.bl.injEq]
    refine ⟨_, seqT_l hp, by rw [lf, sizeLine_eq]; omega, ?_⟩
    refine lcGo_map (T := ⟨foundG pre, fun M => M p = some (.lst (foundG pre))⟩) (M0 := M2) (fun d => some (addM x d)) (fun M3 k3 => k3 _ _ hp) (foundG pre) M2 (.refl _) (fun d hd acc M3 kk k3 hkk => ?_) fun M3 k3 q hq => ?_
    · obtain ⟨is, rfl, hi⟩ := ih d hd
      refine ⟨_, rfl, yes_if ?_⟩
      simp only [Ss.wp, S.wp, E.wp, E.wpT, Es.wp, Es.wpV, Es.wpT, Oe.wpO, Oe.wpT, Wk.wp, wSeq, wRet, wRetN, wNext, wNever, wDrop, wAsg, wIfS, wFor, wPar, wPar3, wFldS, wSetI, wSetK, wDnew, wMeth, wBm, wAndV, wOrV, wNotV, wAnd, wOr, wNot, wTest, wTru, wIf, w1, w2, w3, wVar, wC, wNil, wCons, wTup, wLst, wCall, wCallK, wO0, wO1, wSl, wLc, wISeq, wIR1, wIR2, wIZip, wIStr, wIEn, wDc, DcK.emp, Wk.wp, binF, cmpF, isaD, negD, Blt.spec, Bm.spec, Bm.ty, List.getElem?_cons_zero, List.getElem?_cons_succ, Option.some.injEq, exists_eq_left', exists_eq_left, exists_and_left, List.set_cons_zero, List.set_cons_succ, asn_name, asn_tup, asns_nil, asns_name, wipeD, tru_bl, tru_int, tru_non, tru_tup, bodyEnds, List.map_cons, List.map_nil, ↓reduceIte, Bool.false_eq_true, and_true, true_and, D.str.injEq, D.int.injEq, D.ref.injEq, D.tup.injEq, D.bl.injEq]
      refine ⟨by simp [sizeLine_eq], ?_⟩
      refine ⟨by simp [sizeLine_eq]; omega, ?_⟩
      exact hkk M3 k3
    · rw [show (foundG pre).filterMap (fun d => some (addM x d)) = (foundG pre).map (addM x) by rw [List.filterMap_eq_map']]
      have hp3 : M3 p = some (.lst (foundG pre)) := k3 _ _ hp
      refine ⟨_, _, Keep.new hq _ _ hp3, up_same, by rw [List.length_map, lf, sizeLine_eq]; omega, fun q2 hq2 => ?_⟩
      refine hk _ _ ⟨k2.trans (k3.trans ((Keep.new hq).trans (.new hq2))), q2, _, ?_, rfl⟩
      rw [up_same, found_snoc]
  · obtain ⟨k2, p, v, hp, rfl⟩ := hJ
    exact h _ M2 p v k2 hp rfl
def S_l_sets (_ : Cs) : Spec := fun ds M Q => ∃ n, ds = [.int n] ∧ 0 ≤ n ∧ n ≤ 4 ∧ ∀ M' p, Keep M M' → M p = none → M' p = some (.lst (setsL n)) → Q (.ref p) M'
abbrev N_l_sets : List Str := ["_law_size", "_law_found", "_law_mark", "_law_one"]
def ir_l_sets (c : Cs) : Ss := (.cons (.asg (.name 1) (.lst (.cons (.tup .nil) .nil))) (.cons (.for_ (.name 2) (.r1 (.var 0)) (.cons (.asg (.name 1) (.bin .Add (.var 1) (.lc [("_law_one", 3)] (.name 3) (.seq (.var 1)) .none (.bin .Add (.var 3) (.tup (.cons (.var 2) .nil)))))) .nil)) (.cons (.ret (.slc (.bcall .sorted (.cons (.var 1) .nil)) (.some (.int 1)) .none)) .nil)))
theorem wp_l_sets (c : Cs) {n : Int} {M : Mp} {Q : DQ} (h0 : 0 ≤ n) (h4 : n ≤ 4) (h : ∀ M' p, Keep M M' → M p = none → M' p = some (.lst (setsL n)) → Q (.ref p) M') : (ir_l_sets c).wp (bodyEnds Q) [some (.int n), none, none, none] M := by
  simp only [ir_l_sets, Ss.wp, S.wp, E.wp, Es.wp, Wk.wp, Oe.wpO, Oe.wpT, List.map_cons, List.map_nil, Blt.spec, binF]
  simp only [wSeq, wAsg, wLst, wTup, wCons, wNil, wC, List.getElem?_cons_zero, Tg.asn, List.set_cons_succ, List.set_cons_zero, Option.some.injEq, exists_eq_left']
  refine ⟨by simp [sizeLine_eq], by simp [sizeLine_eq], fun a ha => ?_⟩
  simp only [wFor, wIR1, wVar, List.getElem?_cons_zero, Option.some.injEq, exists_eq_left', D.int.injEq]
  refine ⟨by unfold small62; omega, ?_⟩
  refine sets_loop h0 h4 (.new ha) up_same fun ρ M2 p v k2 hp e => ?_
  subst e
  simp only [Ss.wp, S.wp, E.wp, E.wpT, Es.wp, Es.wpV, Es.wpT, Oe.wpO, Oe.wpT, Wk.wp, wSeq, wRet, wRetN, wNext, wNever, wDrop, wAsg, wIfS, wFor, wPar, wPar3, wFldS, wSetI, wSetK, wDnew, wMeth, wBm, wAndV, wOrV, wNotV, wAnd, wOr, wNot, wTest, wTru, wIf, w1, w2, w3, wVar, wC, wNil, wCons, wTup, wLst, wCall, wCallK, wO0, wO1, wSl, wLc, wISeq, wIR1, wIR2, wIZip, wIStr, wIEn, wDc, DcK.emp, Wk.wp, binF, cmpF, isaD, negD, Blt.spec, Bm.spec, Bm.ty, List.getElem?_cons_zero, List.getElem?_cons_succ, Option.some.injEq, exists_eq_left', exists_eq_left, exists_and_left, List.set_cons_zero, List.set_cons_succ, asn_name, asn_tup, asns_nil, asns_name, wipeD, tru_bl, tru_int, tru_non, tru_tup, bodyEnds, List.map_cons, List.map_nil, ↓reduceIte, Bool.false_eq_true, and_true, true_and, D.str.injEq, D.int.injEq, D.ref.injEq, D.tup.injEq, D.bl.injEq]
  refine sort_sets (rng_nums n) hp fun q hq => ?_
  refine slD_l (cut_one _) up_same fun q2 hq2 => ?_
  exact h _ q2 (k2.trans ((Keep.new hq).trans (.new hq2))) ((k2.trans (Keep.new hq)).none hq2) up_same
def S_sets_of (c : Cs) : Spec := fun ds M Q => ∃ hh n r l p q, ds = [.ref hh] ∧ M hh = some (.ins c.House (houseF (.int n) r l p q)) ∧ 0 ≤ n ∧ n ≤ 4 ∧ ∀ M', Keep M M' → Q (.tup (setsL n)) M'
abbrev N_sets_of : List Str := ["house", "found", "mark", "one"]
def ir_sets_of (c : Cs) : Ss := (.cons (.asg (.name 1) (.lst (.cons (.tup .nil) .nil))) (.cons (.for_ (.name 2) (.r1 (.fld (.var 0) c.House "many")) (.cons (.asg (.name 1) (.bin .Add (.var 1) (.lc [("one", 3)] (.name 3) (.seq (.var 1)) .none (.bin .Add (.var 3) (.tup (.cons (.var 2) .nil)))))) .nil)) (.cons (.ret (.bcall .tuple (.cons (.slc (.bcall .sorted (.cons (.var 1) .nil)) (.some (.int 1)) .none) .nil))) .nil)))
theorem wp_sets_of (c : Cs) {hh : Addr} {n : Int} {r l p q : D} {M : Mp} {Q : DQ} (hm : M hh = some (.ins c.House (houseF (.int n) r l p q))) (h0 : 0 ≤ n) (h4 : n ≤ 4) (h : ∀ M', Keep M M' → Q (.tup (setsL n)) M') : (ir_sets_of c).wp (bodyEnds Q) [some (.ref hh), none, none, none] M := by
  simp only [ir_sets_of, Ss.wp, S.wp, E.wp, Es.wp, Wk.wp, Oe.wpO, Oe.wpT, List.map_cons, List.map_nil, Blt.spec, binF]
  simp only [wSeq, wAsg, wLst, wTup, wCons, wNil, wC, List.getElem?_cons_zero, Tg.asn, List.set_cons_succ, List.set_cons_zero, Option.some.injEq, exists_eq_left']
  refine ⟨by simp [sizeLine_eq], by simp [sizeLine_eq], fun a ha => ?_⟩
  simp only [wFor, wIR1, w1, wVar, List.getElem?_cons_zero, Option.some.injEq, exists_eq_left', D.int.injEq]
  refine ⟨hh, _, .int n, rfl, Keep.new ha _ _ hm, look_many, n, rfl, by unfold small62; omega, ?_⟩
  refine sets_loop h0 h4 (.new ha) up_same fun ρ M2 p v k2 hp e => ?_
  subst e
  simp only [Ss.wp, S.wp, E.wp, E.wpT, Es.wp, Es.wpV, Es.wpT, Oe.wpO, Oe.wpT, Wk.wp, wSeq, wRet, wRetN, wNext, wNever, wDrop, wAsg, wIfS, wFor, wPar, wPar3, wFldS, wSetI, wSetK, wDnew, wMeth, wBm, wAndV, wOrV, wNotV, wAnd, wOr, wNot, wTest, wTru, wIf, w1, w2, w3, wVar, wC, wNil, wCons, wTup, wLst, wCall, wCallK, wO0, wO1, wSl, wLc, wISeq, wIR1, wIR2, wIZip, wIStr, wIEn, wDc, DcK.emp, Wk.wp, binF, cmpF, isaD, negD, Blt.spec, Bm.spec, Bm.ty, List.getElem?_cons_zero, List.getElem?_cons_succ, Option.some.injEq, exists_eq_left', exists_eq_left, exists_and_left, List.set_cons_zero, List.set_cons_succ, asn_name, asn_tup, asns_nil, asns_name, wipeD, tru_bl, tru_int, tru_non, tru_tup, bodyEnds, List.map_cons, List.map_nil, ↓reduceIte, Bool.false_eq_true, and_true, true_and, D.str.injEq, D.int.injEq, D.ref.injEq, D.tup.injEq, D.bl.injEq]
  refine sort_sets (rng_nums n) hp fun q hq => ?_
  refine slD_l (cut_one _) up_same fun q2 hq2 => ?_
  exact ⟨_, setsL n, rfl, .inr ⟨q2, rfl, up_same⟩, h _ (k2.trans ((Keep.new hq).trans (.new hq2)))⟩
/-! ### ties -/
def hitR (nm : Str) (prs : List D) (a : D) : D → Option D := fun b => match a, b with
  | .tup [.int i, .tup one], .tup [.int j, .tup other] => if besideB prs one other = true then some (tie nm [i, j]) else none
  | _, _ => none
def linksR (S : List D) (r : D) : List D := match r with
  | .tup [.str nm, .tup prs] => (enI 0 S).flatMap fun a => (enI 0 S).filterMap (hitR nm prs a)
  | _ => []
def linksOf (rs S : List D) : List D := rs.flatMap (linksR S)
def inL (m : D) (ms : List D) : Bool := (pys ms).any fun z => PyData.eqv z (py m)
def hitL (nm : Str) (ms : List D) : D → Option D
  | .tup [.int i, .tup one] => if (one.all fun m => inL m ms) = true then some (tie nm [i]) else none
  | _ => none
def labelsR (S : List D) (r : D) : List D := match r with
  | .tup [.str nm, .tup ms] => (enI 0 S).filterMap (hitL nm ms)
  | _ => []
def labelsOf (ls S : List D) : List D := ls.flatMap (labelsR S)
theorem in_mark {i : Int} {ms : List D} {M : Mp} {Q : DQ} (hp : numsD ms) (h : Q (.bl (inL (.int i) ms)) M) : inD false (.int i) (.tup ms) M Q := by
  have pl : ∀ d ∈ ms, plain d = true ∧ lay d := fun d hd => by
    obtain ⟨a, rfl⟩ := hp d hd
    exact ⟨rfl, lay_int _⟩
  exact .inl ⟨py (.int i), ms, pys ms, .plain rfl, .inl rfl, .plain (plains_of fun d hd => (pl d hd).1), shaped_py (lay_int i) (by simp [py, PyData.depth]), lays_of fun d hd => (pl d hd).2, h⟩
theorem en_mem : ∀ {S : List D} {n : Nat} {x : D}, x ∈ enI n S → ∃ i d, x = .tup [.int (i : Nat), d] ∧ d ∈ S ∧ n ≤ i ∧ i < n + S.length
  | [], n, x, h => by unfold enI at h; cases h
  | d :: S, n, x, h => by
    unfold enI at h
    rcases List.mem_cons.mp h with rfl | h
    · exact ⟨n, d, rfl, List.mem_cons_self, Nat.le_refl _, by rw [List.length_cons]; omega⟩
    · obtain ⟨i, e, a, b, c, f⟩ := en_mem h
      exact ⟨i, e, a, List.mem_cons_of_mem _ b, by omega, by rw [List.length_cons]; omega⟩
theorem flat_len {α β : Type} {f : α → List β} {n : Nat} : ∀ {xs : List α}, (∀ x ∈ xs, (f x).length ≤ n) → (xs.flatMap f).length ≤ xs.length * n
  | [], _ => by simp
  | x :: xs, h => by
    have h1 := h x List.mem_cons_self
    have h2 := flat_len (xs := xs) fun y hy => h y (List.mem_cons_of_mem _ hy)
    rw [List.flatMap_cons, List.length_append, List.length_cons, Nat.add_mul]
    omega
theorem links_len (S : List D) (r : D) : (linksR S r).length ≤ S.length * S.length := by
  unfold linksR
  split
  · refine Nat.le_trans (flat_len (n := S.length) fun a _ => ?_) (by rw [enI_len]; exact Nat.le_refl _)
    exact Nat.le_trans (List.length_filterMap_le _ _) (by rw [enI_len]; exact Nat.le_refl _)
  · simp
theorem labels_len (S : List D) (r : D) : (labelsR S r).length ≤ S.length := by
  unfold labelsR
  split
  · exact Nat.le_trans (List.length_filterMap_le _ _) (by rw [enI_len]; exact Nat.le_refl _)
  · simp
theorem sort_ties {a : Addr} {xs : List D} {M : Mp} {Q : DQ} (hx : ∀ x ∈ xs, ∃ nm is, x = tie nm is) (ha : M a = some (.lst xs)) (h : ∀ p, M p = none → Q (.ref p) (up M p (.lst (sortD xs)))) : sortedS [.ref a] M Q := by
  refine ⟨a, _, rfl, ha, plains_of fun d hd => ?_, fun d hd d' hd' => ?_, .inl (.inl fun d hd => ?_), fun d hd => ?_, h⟩
  · obtain ⟨nm, is, rfl⟩ := hx d hd
    exact plain_tie nm is
  · obtain ⟨x, h1, rfl⟩ := List.mem_map.mp hd
    obtain ⟨y, h2, rfl⟩ := List.mem_map.mp hd'
    obtain ⟨nm, is, rfl⟩ := hx x h1
    obtain ⟨nm', js, rfl⟩ := hx y h2
    exact (cmpP_tie nm nm' is js).2.2.1
  · obtain ⟨x, h1, rfl⟩ := List.mem_map.mp hd
    obtain ⟨nm, is, rfl⟩ := hx x h1
    exact ⟨.str nm, pys (is.map D.int), by simp [tie, py, pys]⟩
  · obtain ⟨nm, is, rfl⟩ := hx d hd
    exact Nat.le_trans (dep_tie nm is) (by decide)
end DL

set_option Elab.async false
set_option linter.all false
set_option maxRecDepth 100000
set_option maxHeartbeats 4000000
/-! W5: the sets' net. -/
namespace DL
open PySem L2
def S_Net_K1_links_labels (c : Cs) : Spec := makeS c.Net (S_Net_init c) id
def knotsL (n : Int) : Int := ((setsL n).length : Nat)
def S_sets_net (c : Cs) : Spec := fun ds M Q => ∃ hh n rs ls p q, ds = [.ref hh] ∧ M hh = some (.ins c.House (houseF (.int n) (.tup rs) (.tup ls) p q)) ∧ 0 ≤ n ∧ n ≤ 4 ∧ RulesOk n rs ∧ ListsOk n ls ∧ NetOk (knotsL n) (sortD (linksOf rs (setsL n))) (sortD (labelsOf ls (setsL n))) ∧
  ∀ M' t, Keep M M' → M t = none → M' t = some (.ins c.Net (netF (.int (knotsL n)) (.tup (sortD (linksOf rs (setsL n)))) (.tup (sortD (labelsOf ls (setsL n)))))) → Q (.ref t) M'
theorem prsI_of {prs : List D} {lo hi : Int} (h : ∀ p ∈ prs, isPr p lo hi = true) : prsI prs := fun x hx => isPr_ints (h x hx)
theorem nums_of {ms : List D} {lo hi : Int} (h : ∀ p ∈ ms, isWh p lo hi = true) : numsD ms := fun x hx => isWh_int (h x hx)
theorem set_nums {d : D} (h : setD d) : ∃ xs, d = .tup xs ∧ numsD xs := by
  obtain ⟨is, rfl⟩ := h
  exact ⟨_, rfl, fun x hx => by obtain ⟨i, _, rfl⟩ := List.mem_map.mp hx; exact ⟨i, rfl⟩⟩
theorem enT_t {ds : List D} {M : Mp} : enT M (.tup ds) ⟨enI 0 ds, fun _ => True⟩ := .inl ⟨ds, rfl, rfl⟩
theorem enT_l {p : Addr} {ds : List D} {M : Mp} (h : M p = some (.lst ds)) : enT M (.ref p) ⟨enI 0 ds, fun M => M p = some (.lst ds)⟩ := .inr ⟨p, ds, rfl, h, rfl⟩
theorem link_mem {rs S : List D} {x : D} (h : x ∈ linksOf rs S) : ∃ nm prs i j, D.tup [.str nm, .tup prs] ∈ rs ∧ x = tie nm [((i : Nat) : Int), ((j : Nat) : Int)] ∧ i < S.length ∧ j < S.length := by
  unfold linksOf at h
  obtain ⟨r, hr, h⟩ := List.mem_flatMap.mp h
  unfold linksR at h
  split at h
  · rename_i nm prs
    obtain ⟨a, ha, h⟩ := List.mem_flatMap.mp h
    obtain ⟨b, hb, e⟩ := List.mem_filterMap.mp h
    obtain ⟨i, d, rfl, _, _, hi⟩ := en_mem ha
    obtain ⟨j, d2, rfl, _, _, hj⟩ := en_mem hb
    unfold hitR at e
    split at e
    · rename_i h1 h2
      cases h1
      cases h2
      split at e
      · cases e
        exact ⟨nm, prs, i, j, hr, rfl, by omega, by omega⟩
      · cases e
    · cases e
  · cases h
theorem label_mem {ls S : List D} {x : D} (h : x ∈ labelsOf ls S) : ∃ nm ms i, D.tup [.str nm, .tup ms] ∈ ls ∧ x = tie nm [((i : Nat) : Int)] ∧ i < S.length := by
  unfold labelsOf at h
  obtain ⟨r, hr, h⟩ := List.mem_flatMap.mp h
  unfold labelsR at h
  split at h
  · rename_i nm ms
    obtain ⟨a, ha, e⟩ := List.mem_filterMap.mp h
    obtain ⟨i, d, rfl, _, _, hi⟩ := en_mem ha
    unfold hitL at e
    split at e
    · rename_i h1
      cases h1
      split at e
      · cases e
        exact ⟨nm, ms, i, hr, rfl, by omega⟩
      · cases e
    · cases e
  · cases h
theorem links_tie {rs S : List D} : ∀ x ∈ linksOf rs S, ∃ nm is, x = tie nm is := fun x hx => by
  obtain ⟨nm, _, i, j, _, e, _⟩ := link_mem hx
  exact ⟨nm, _, e⟩
theorem labels_tie {rs S : List D} : ∀ x ∈ labelsOf rs S, ∃ nm is, x = tie nm is := fun x hx => by
  obtain ⟨nm, _, i, _, e, _⟩ := label_mem hx
  exact ⟨nm, _, e⟩
theorem loopR_P (c : Cs) {Sx rs : List D} {sd x0 : D} {p q : Addr} {M M1 : Mp} {n : Int} {kp : Mp → Prop} {D0 : DEnds} (hS : ∀ d ∈ Sx, setD d) (zS : Sx.length ≤ 15) (zz : ∀ xs, .tup xs ∈ Sx → xs.length ≤ sizeLine) (hr : RulesOk n rs)
    (hen : ∀ M', Keep M M' → enT M' sd ⟨enI 0 Sx, kp⟩) (hkp : ∀ M', Keep M M' → kp M') (np : M p = none) (k1 : Keep M M1) (hp1 : M1 p = some (.lst [])) (hq1 : M1 q = some (.lst [])) (npq : p ≠ q)
    (h : ∀ ρ M2 vn vp va vo, Keep M M2 → M2 p = some (.lst (linksOf rs Sx)) → M2 q = some (.lst []) → ρ = [some x0, some sd, some (.ref p), some (.ref q), vn, vp, none, va, vo, none, none, none] → D0.nx ρ M2) :
    forGo ⟨rs, fun _ => True⟩ (.tup (.cons (.name 4) (.cons (.name 5) .nil))) (wSeq (wFor (wIEn (wVar 1)) (.tup (.cons (.name 7) (.cons (.name 8) .nil))) (wSeq (wDrop (wBm "list" extendM (wVar 2) (wCons
      (wLc (wIEn (wVar 1)) (.tup (.cons (.name 9) (.cons (.name 10) .nil))) (wTru (wCall (S_are_laid c) (wCons (wVar 5) (wCons (wVar 8) (wCons (wVar 10) wNil))))) (wTup (wCons (wVar 4) (wCons (wVar 7) (wCons (wVar 9) wNil)))) [9, 10]) wNil))) wNext)) wNext)
      D0 rs [some x0, some sd, some (.ref p), some (.ref q), none, none, none, none, none, none, none, none] M1 := by
  have zE : (enI 0 Sx).length ≤ 15 := by rw [enI_len]; exact zS
  have zE' : (enI 0 Sx).length ≤ sizeLine := by rw [sizeLine_eq]; omega
  refine forGo_pos (T := ⟨rs, fun _ => True⟩) (fun done ρ M2 => Keep M M2 ∧ M2 p = some (.lst (linksOf done Sx)) ∧ M2 q = some (.lst []) ∧ ∃ vn vp va vo, ρ = [some x0, some sd, some (.ref p), some (.ref q), vn, vp, none, va, vo, none, none, none]) (fun _ _ _ _ => trivial) rs [] _ M1 ⟨k1, hp1, hq1, none, none, none, none, rfl⟩ (fun x pre post e ρ M2 k hJ hk => ?_) fun ρ M2 hJ => ?_
  · obtain ⟨k2, hp2, hq2, vn, vp, va, vo, rfl⟩ := hJ
    rw [List.nil_append] at hp2 hk
    obtain ⟨nm, prs, rfl, hn, hpr, hrr⟩ := hr.each x (by rw [e]; simp)
    have hlen : pre.length ≤ 2 := by have h1 := hr.len; rw [e, List.length_append, List.length_cons] at h1; omega
    have zpre : (linksOf pre Sx).length ≤ 450 := by
      refine Nat.le_trans (flat_len (n := Sx.length * Sx.length) fun r _ => links_len Sx r) ?_
      calc pre.length * (Sx.length * Sx.length) ≤ 2 * (15 * 15) := Nat.mul_le_mul hlen (Nat.mul_le_mul zS zS)
        _ = 450 := rfl
    refine ⟨_, rfl, ?_⟩
    simp only [Ss.wp, S.wp, E.wp, E.wpT, Es.wp, Es.wpV, Es.wpT, Oe.wpO, Oe.wpT, Wk.wp, wSeq, wRet, wRetN, wNext, wNever, wDrop, wAsg, wIfS, wFor, wPar, wPar3, wFldS, wSetI, wSetK, wDnew, wMeth, wBm, wAndV, wOrV, wNotV, wAnd, wOr, wNot, wTest, wTru, wIf, w1, w2, w3, wVar, wC, wNil, wCons, wTup, wLst, wCall, wCallK, wO0, wO1, wSl, wLc, wISeq, wIR1, wIR2, wIZip, wIStr, wIEn, wDc, DcK.emp, Wk.wp, binF, cmpF, isaD, negD, Blt.spec, Bm.spec, Bm.ty, List.getElem?_cons_zero, List.getElem?_cons_succ, Option.some.injEq, exists_eq_left', exists_eq_left, exists_and_left, List.set_cons_zero, List.set_cons_succ, asn_name, asn_tup, asns_nil, asns_name, wipeD, tru_bl, tru_int, tru_non, tru_tup, bodyEnds, List.map_cons, List.map_nil, ↓reduceIte, Bool.false_eq_true, and_true, true_and, D.str.injEq, D.int.injEq, D.ref.injEq, D.tup.injEq, D.bl.injEq]
    refine ⟨_, hen M2 k2, ?_⟩
    refine forGo_pos (T := ⟨enI 0 Sx, kp⟩) (fun done2 ρ M3 => Keep M M3 ∧ M3 p = some (.lst (linksOf pre Sx ++ done2.flatMap fun a => (enI 0 Sx).filterMap (hitR nm prs a))) ∧ M3 q = some (.lst []) ∧ ∃ va vo, ρ = [some x0, some sd, some (.ref p), some (.ref q), some (.str nm), some (.tup prs), none, va, vo, none, none, none]) (fun _ _ M3 hJ => hkp M3 hJ.1) (enI 0 Sx) [] _ M2 ⟨k2, by rw [List.flatMap_nil, List.append_nil]; exact hp2, hq2, va, vo, rfl⟩ (fun y pre2 post2 e2 ρ M3 k' hJ hk' => ?_) fun ρ M3 hJ => ?_
    · obtain ⟨k3, hp3, hq3, va, vo, rfl⟩ := hJ
      rw [List.nil_append] at hp3 hk'
      obtain ⟨i, d, rfl, hd, _, hi⟩ := en_mem (S := Sx) (n := 0) (x := y) (by rw [e2]; simp)
      obtain ⟨one, rfl, h1⟩ := set_nums (hS d hd)
      have hlen2 : pre2.length ≤ 14 := by rw [e2, List.length_append, List.length_cons] at zE; omega
      refine ⟨_, rfl, ?_⟩
      simp only [Ss.wp, S.wp, E.wp, E.wpT, Es.wp, Es.wpV, Es.wpT, Oe.wpO, Oe.wpT, Wk.wp, wSeq, wRet, wRetN, wNext, wNever, wDrop, wAsg, wIfS, wFor, wPar, wPar3, wFldS, wSetI, wSetK, wDnew, wMeth, wBm, wAndV, wOrV, wNotV, wAnd, wOr, wNot, wTest, wTru, wIf, w1, w2, w3, wVar, wC, wNil, wCons, wTup, wLst, wCall, wCallK, wO0, wO1, wSl, wLc, wISeq, wIR1, wIR2, wIZip, wIStr, wIEn, wDc, DcK.emp, Wk.wp, binF, cmpF, isaD, negD, Blt.spec, Bm.spec, Bm.ty, List.getElem?_cons_zero, List.getElem?_cons_succ, Option.some.injEq, exists_eq_left', exists_eq_left, exists_and_left, List.set_cons_zero, List.set_cons_succ, asn_name, asn_tup, asns_nil, asns_name, wipeD, tru_bl, tru_int, tru_non, tru_tup, bodyEnds, List.map_cons, List.map_nil, ↓reduceIte, Bool.false_eq_true, and_true, true_and, D.str.injEq, D.int.injEq, D.ref.injEq, D.tup.injEq, D.bl.injEq]
      refine ⟨.inl ⟨rfl, _, hp3⟩, _, hen M3 k3, zE', ?_⟩
      refine lcGo_map (T := ⟨enI 0 Sx, kp⟩) (M0 := M3) (hitR nm prs (.tup [.int (i : Nat), .tup one])) (fun M4 k4 => hkp M4 (k3.trans k4)) (enI 0 Sx) M3 (.refl _) (fun z hz acc M4 kk k4 hkk => ?_) fun M4 k4 r hr4 => ?_
      · obtain ⟨j, d2, rfl, hd2, _, _⟩ := en_mem hz
        obtain ⟨other, rfl, h2⟩ := set_nums (hS d2 hd2)
        refine ⟨_, rfl, ?_⟩
        simp only [Ss.wp, S.wp, E.wp, E.wpT, Es.wp, Es.wpV, Es.wpT, Oe.wpO, Oe.wpT, Wk.wp, wSeq, wRet, wRetN, wNext, wNever, wDrop, wAsg, wIfS, wFor, wPar, wPar3, wFldS, wSetI, wSetK, wDnew, wMeth, wBm, wAndV, wOrV, wNotV, wAnd, wOr, wNot, wTest, wTru, wIf, w1, w2, w3, wVar, wC, wNil, wCons, wTup, wLst, wCall, wCallK, wO0, wO1, wSl, wLc, wISeq, wIR1, wIR2, wIZip, wIStr, wIEn, wDc, DcK.emp, Wk.wp, binF, cmpF, isaD, negD, Blt.spec, Bm.spec, Bm.ty, List.getElem?_cons_zero, List.getElem?_cons_succ, Option.some.injEq, exists_eq_left', exists_eq_left, exists_and_left, List.set_cons_zero, List.set_cons_succ, asn_name, asn_tup, asns_nil, asns_name, wipeD, tru_bl, tru_int, tru_non, tru_tup, bodyEnds, List.map_cons, List.map_nil, ↓reduceIte, Bool.false_eq_true, and_true, true_and, D.str.injEq, D.int.injEq, D.ref.injEq, D.tup.injEq, D.bl.injEq]
        refine ⟨prs, one, other, rfl, prsI_of hpr, h1, h2, fun M5 k5 => ⟨_, rfl, ?_⟩⟩
        have q5 := hkk M5 (k4.trans k5)
        unfold hitR at q5
        by_cases hb : besideB prs one other = true
        · simp only [hb, if_true] at q5 ⊢
          refine ⟨by simp [sizeLine_eq], ?_⟩
          exact q5
        · rw [Bool.not_eq_true] at hb
          simp only [hb, Bool.false_eq_true, if_false] at q5 ⊢
          simpa using q5
      · have npr : p ≠ r := fun z => by subst z; rw [k4 _ _ hp3] at hr4; cases hr4
        have nqr : q ≠ r := fun z => by subst z; rw [k4 _ _ hq3] at hr4; cases hr4
        refine ⟨p, r, _, _, rfl, rfl, by rw [up_ne npr]; exact k4 _ _ hp3, up_same, ?_, ?_⟩
        · have z1 : (pre2.flatMap fun a => (enI 0 Sx).filterMap (hitR nm prs a)).length ≤ pre2.length * 15 := flat_len fun a _ => Nat.le_trans (List.length_filterMap_le _ _) zE
          have z2 : ((enI 0 Sx).filterMap (hitR nm prs (.tup [.int (i : Nat), .tup one]))).length ≤ 15 := Nat.le_trans (List.length_filterMap_le _ _) zE
          rw [List.length_append, sizeLine_eq]
          omega
        · refine hk' _ _ ⟨(k3.trans (k4.trans (.new hr4))).put np, ?_, ?_, _, _, rfl⟩
          · rw [up_same, List.flatMap_append, List.append_assoc]; simp
          · rw [up_ne (Ne.symm npq), up_ne nqr]; exact k4 _ _ hq3
    · obtain ⟨k3, hp3, hq3, va, vo, rfl⟩ := hJ
      simp only [Ss.wp, S.wp, E.wp, E.wpT, Es.wp, Es.wpV, Es.wpT, Oe.wpO, Oe.wpT, Wk.wp, wSeq, wRet, wRetN, wNext, wNever, wDrop, wAsg, wIfS, wFor, wPar, wPar3, wFldS, wSetI, wSetK, wDnew, wMeth, wBm, wAndV, wOrV, wNotV, wAnd, wOr, wNot, wTest, wTru, wIf, w1, w2, w3, wVar, wC, wNil, wCons, wTup, wLst, wCall, wCallK, wO0, wO1, wSl, wLc, wISeq, wIR1, wIR2, wIZip, wIStr, wIEn, wDc, DcK.emp, Wk.wp, binF, cmpF, isaD, negD, Blt.spec, Bm.spec, Bm.ty, List.getElem?_cons_zero, List.getElem?_cons_succ, Option.some.injEq, exists_eq_left', exists_eq_left, exists_and_left, List.set_cons_zero, List.set_cons_succ, asn_name, asn_tup, asns_nil, asns_name, wipeD, tru_bl, tru_int, tru_non, tru_tup, bodyEnds, List.map_cons, List.map_nil, ↓reduceIte, Bool.false_eq_true, and_true, true_and, D.str.injEq, D.int.injEq, D.ref.injEq, D.tup.injEq, D.bl.injEq]
      refine hk _ M3 ⟨k3, ?_, hq3, _, _, va, vo, rfl⟩
      rw [hp3]
      unfold linksOf
      rw [List.flatMap_append]
      simp [linksR]
  · obtain ⟨k2, hp2, hq2, vn, vp, va, vo, rfl⟩ := hJ
    exact h _ M2 vn vp va vo k2 hp2 hq2 rfl
theorem loopB_P (c : Cs) {Sx ls L : List D} {sd x0 : D} {p q : Addr} {M M1 : Mp} {n : Int} {kp : Mp → Prop} {D0 : DEnds} {vn vp vm va vo : Option D} (hS : ∀ d ∈ Sx, setD d) (zS : Sx.length ≤ 15) (zz : ∀ xs, .tup xs ∈ Sx → xs.length ≤ sizeLine) (hl : ListsOk n ls)
    (hen : ∀ M', Keep M M' → enT M' sd ⟨enI 0 Sx, kp⟩) (hkp : ∀ M', Keep M M' → kp M') (nq : M q = none) (k1 : Keep M M1) (hp1 : M1 p = some (.lst L)) (hq1 : M1 q = some (.lst [])) (npq : p ≠ q)
    (h : ∀ ρ M2 vn vp vm va vo, Keep M M2 → M2 p = some (.lst L) → M2 q = some (.lst (labelsOf ls Sx)) → ρ = [some x0, some sd, some (.ref p), some (.ref q), vn, vp, vm, va, vo, none, none, none] → D0.nx ρ M2) :
    forGo ⟨ls, fun _ => True⟩ (.tup (.cons (.name 4) (.cons (.name 6) .nil))) (wSeq (wDrop (wBm "list" extendM (wVar 3) (wCons
      (wLc (wIEn (wVar 1)) (.tup (.cons (.name 7) (.cons (.name 8) .nil))) (wTru (wCall allS (wCons (wLc (wISeq (wVar 8)) (.name 11) wYes (w2 (inD false) (wVar 11) (wVar 6)) [11]) wNil))) (wTup (wCons (wVar 4) (wCons (wVar 7) wNil))) [7, 8]) wNil))) wNext)
      D0 ls [some x0, some sd, some (.ref p), some (.ref q), vn, vp, vm, va, vo, none, none, none] M1 := by
  have zE : (enI 0 Sx).length ≤ 15 := by rw [enI_len]; exact zS
  have zE' : (enI 0 Sx).length ≤ sizeLine := by rw [sizeLine_eq]; omega
  refine forGo_pos (T := ⟨ls, fun _ => True⟩) (fun done ρ M2 => Keep M M2 ∧ M2 p = some (.lst L) ∧ M2 q = some (.lst (labelsOf done Sx)) ∧ ∃ vn vp vm va vo, ρ = [some x0, some sd, some (.ref p), some (.ref q), vn, vp, vm, va, vo, none, none, none]) (fun _ _ _ _ => trivial) ls [] _ M1 ⟨k1, hp1, hq1, vn, vp, vm, va, vo, rfl⟩ (fun x pre post e ρ M2 k hJ hk => ?_) fun ρ M2 hJ => ?_
  · obtain ⟨k2, hp2, hq2, vn, vp, vm, va, vo, rfl⟩ := hJ
    rw [List.nil_append] at hq2 hk
    obtain ⟨nm, ms, rfl, hn, hpr, hrr⟩ := hl.each x (by rw [e]; simp)
    have hlen : pre.length ≤ 5 := by have h1 := hl.len; rw [e, List.length_append, List.length_cons] at h1; omega
    have zpre : (labelsOf pre Sx).length ≤ 75 := by
      refine Nat.le_trans (flat_len (n := Sx.length) fun r _ => labels_len Sx r) ?_
      calc pre.length * Sx.length ≤ 5 * 15 := Nat.mul_le_mul hlen zS
        _ = 75 := rfl
    refine ⟨_, rfl, ?_⟩
    simp only [Ss.wp, S.wp, E.wp, E.wpT, Es.wp, Es.wpV, Es.wpT, Oe.wpO, Oe.wpT, Wk.wp, wSeq, wRet, wRetN, wNext, wNever, wDrop, wAsg, wIfS, wFor, wPar, wPar3, wFldS, wSetI, wSetK, wDnew, wMeth, wBm, wAndV, wOrV, wNotV, wAnd, wOr, wNot, wTest, wTru, wIf, w1, w2, w3, wVar, wC, wNil, wCons, wTup, wLst, wCall, wCallK, wO0, wO1, wSl, wLc, wISeq, wIR1, wIR2, wIZip, wIStr, wIEn, wDc, DcK.emp, Wk.wp, binF, cmpF, isaD, negD, Blt.spec, Bm.spec, Bm.ty, List.getElem?_cons_zero, List.getElem?_cons_succ, Option.some.injEq, exists_eq_left', exists_eq_left, exists_and_left, List.set_cons_zero, List.set_cons_succ, asn_name, asn_tup, asns_nil, asns_name, wipeD, tru_bl, tru_int, tru_non, tru_tup, bodyEnds, List.map_cons, List.map_nil, ↓reduceIte, Bool.false_eq_true, and_true, true_and, D.str.injEq, D.int.injEq, D.ref.injEq, D.tup.injEq, D.bl.injEq]
    refine ⟨.inl ⟨rfl, _, hq2⟩, _, hen M2 k2, zE', ?_⟩
    refine lcGo_map (T := ⟨enI 0 Sx, kp⟩) (M0 := M2) (hitL nm ms) (fun M4 k4 => hkp M4 (k2.trans k4)) (enI 0 Sx) M2 (.refl _) (fun z hz acc M4 kk k4 hkk => ?_) fun M4 k4 r hr4 => ?_
    · obtain ⟨j, d2, rfl, hd2, _, _⟩ := en_mem hz
      obtain ⟨one, rfl, h2⟩ := set_nums (hS d2 hd2)
      refine ⟨_, rfl, ?_⟩
      simp only [Ss.wp, S.wp, E.wp, E.wpT, Es.wp, Es.wpV, Es.wpT, Oe.wpO, Oe.wpT, Wk.wp, wSeq, wRet, wRetN, wNext, wNever, wDrop, wAsg, wIfS, wFor, wPar, wPar3, wFldS, wSetI, wSetK, wDnew, wMeth, wBm, wAndV, wOrV, wNotV, wAnd, wOr, wNot, wTest, wTru, wIf, w1, w2, w3, wVar, wC, wNil, wCons, wTup, wLst, wCall, wCallK, wO0, wO1, wSl, wLc, wISeq, wIR1, wIR2, wIZip, wIStr, wIEn, wDc, DcK.emp, Wk.wp, binF, cmpF, isaD, negD, Blt.spec, Bm.spec, Bm.ty, List.getElem?_cons_zero, List.getElem?_cons_succ, Option.some.injEq, exists_eq_left', exists_eq_left, exists_and_left, List.set_cons_zero, List.set_cons_succ, asn_name, asn_tup, asns_nil, asns_name, wipeD, tru_bl, tru_int, tru_non, tru_tup, bodyEnds, List.map_cons, List.map_nil, ↓reduceIte, Bool.false_eq_true, and_true, true_and, D.str.injEq, D.int.injEq, D.ref.injEq, D.tup.injEq, D.bl.injEq]
      refine ⟨_, seqT_t, zz one hd2, ?_⟩
      refine all_go (T := ⟨one, fun _ => True⟩) (fun m => inL m ms) (fun _ _ => trivial) (fun y hy M5 k' k5 hk' => ⟨_, rfl, ?_⟩) fun M5 k5 => ⟨_, rfl, ?_⟩
      · obtain ⟨i, rfl⟩ := h2 y hy
        simp only [Ss.wp, S.wp, E.wp, E.wpT, Es.wp, Es.wpV, Es.wpT, Oe.wpO, Oe.wpT, Wk.wp, wSeq, wRet, wRetN, wNext, wNever, wDrop, wAsg, wIfS, wFor, wPar, wPar3, wFldS, wSetI, wSetK, wDnew, wMeth, wBm, wAndV, wOrV, wNotV, wAnd, wOr, wNot, wTest, wTru, wIf, w1, w2, w3, wVar, wC, wNil, wCons, wTup, wLst, wCall, wCallK, wO0, wO1, wSl, wLc, wISeq, wIR1, wIR2, wIZip, wIStr, wIEn, wDc, DcK.emp, Wk.wp, binF, cmpF, isaD, negD, Blt.spec, Bm.spec, Bm.ty, List.getElem?_cons_zero, List.getElem?_cons_succ, Option.some.injEq, exists_eq_left', exists_eq_left, exists_and_left, List.set_cons_zero, List.set_cons_succ, asn_name, asn_tup, asns_nil, asns_name, wipeD, tru_bl, tru_int, tru_non, tru_tup, bodyEnds, List.map_cons, List.map_nil, ↓reduceIte, Bool.false_eq_true, and_true, true_and, D.str.injEq, D.int.injEq, D.ref.injEq, D.tup.injEq, D.bl.injEq]
        exact in_mark (nums_of hpr) (hk' M5 k5)
      · have q5 := hkk M5 (k4.trans k5)
        unfold hitL at q5
        by_cases hb : (one.all fun m => inL m ms) = true
        · simp only [hb, if_true] at q5 ⊢
          refine ⟨by simp [sizeLine_eq], ?_⟩
          exact q5
        · rw [Bool.not_eq_true] at hb
          simp only [hb, Bool.false_eq_true, if_false] at q5 ⊢
          simpa using q5
    · have npr : p ≠ r := fun z => by subst z; rw [k4 _ _ hp2] at hr4; cases hr4
      have nqr : q ≠ r := fun z => by subst z; rw [k4 _ _ hq2] at hr4; cases hr4
      refine ⟨q, r, _, _, rfl, rfl, by rw [up_ne nqr]; exact k4 _ _ hq2, up_same, ?_, ?_⟩
      · have z2 : ((enI 0 Sx).filterMap (hitL nm ms)).length ≤ 15 := Nat.le_trans (List.length_filterMap_le _ _) zE
        rw [sizeLine_eq]
        omega
      · refine hk _ _ ⟨(k2.trans (k4.trans (.new hr4))).put nq, ?_, ?_, _, _, _, _, _, rfl⟩
        · rw [up_ne npq, up_ne npr]; exact k4 _ _ hp2
        · rw [up_same]
          unfold labelsOf
          rw [List.flatMap_append]
          simp [labelsR]
  · obtain ⟨k2, hp2, hq2, vn, vp, vm, va, vo, rfl⟩ := hJ
    exact h _ M2 vn vp vm va vo k2 hp2 hq2 rfl
abbrev N_sets_net : List Str := ["house", "some", "links", "labels", "name", "pairs", "marks", "at", "one", "to", "other", "mark"]
def ir_sets_net (c : Cs) : Ss := (.cons (.par3 1 2 3 (.cons (.call "sets_of" (S_sets_of c) (.cons (.var 0) .nil)) (.cons (.lst .nil) (.cons (.lst .nil) .nil)))) (.cons (.for_ (.tup (.cons (.name 4) (.cons (.name 5) .nil))) (.seq (.fld (.var 0) c.House "rules")) (.cons (.for_ (.tup (.cons (.name 7) (.cons (.name 8) .nil))) (.enm (.var 1)) (.cons (.expr (.bm .extend (.var 2) (.cons (.lc [("to", 9), ("other", 10)] (.tup (.cons (.name 9) (.cons (.name 10) .nil))) (.enm (.var 1)) (.some (.call "are_laid" (S_are_laid c) (.cons (.var 5) (.cons (.var 8) (.cons (.var 10) .nil))))) (.tup (.cons (.var 4) (.cons (.var 7) (.cons (.var 9) .nil))))) .nil))) .nil)) .nil)) (.cons (.for_ (.tup (.cons (.name 4) (.cons (.name 6) .nil))) (.seq (.fld (.var 0) c.House "lists")) (.cons (.expr (.bm .extend (.var 3) (.cons (.lc [("at", 7), ("one", 8)] (.tup (.cons (.name 7) (.cons (.name 8) .nil))) (.enm (.var 1)) (.some (.bcall .all (.cons (.lc [("mark", 11)] (.name 11) (.seq (.var 8)) .none (.cmp .In (.var 11) (.var 6))) .nil))) (.tup (.cons (.var 4) (.cons (.var 7) .nil)))) .nil))) .nil)) (.cons (.ret (.callK "Net" (S_Net_K1_links_labels c) (.cons (.bcall .len (.cons (.var 1) .nil)) .nil) ["links", "labels"] (.cons (.bcall .tuple (.cons (.bcall .sorted (.cons (.var 2) .nil)) .nil)) (.cons (.bcall .tuple (.cons (.bcall .sorted (.cons (.var 3) .nil)) .nil)) .nil)))) .nil))))
theorem wp_sets_net (c : Cs) {hh : Addr} {n : Int} {rs ls : List D} {pp qq : D} {M : Mp} {Q : DQ} (hm : M hh = some (.ins c.House (houseF (.int n) (.tup rs) (.tup ls) pp qq))) (h0 : 0 ≤ n) (h4 : n ≤ 4) (hr : RulesOk n rs) (hl : ListsOk n ls)
    (ok : NetOk (knotsL n) (sortD (linksOf rs (setsL n))) (sortD (labelsOf ls (setsL n))))
    (h : ∀ M' t, Keep M M' → M t = none → M' t = some (.ins c.Net (netF (.int (knotsL n)) (.tup (sortD (linksOf rs (setsL n)))) (.tup (sortD (labelsOf ls (setsL n)))))) → Q (.ref t) M') :
    (ir_sets_net c).wp (bodyEnds Q) [some (.ref hh), none, none, none, none, none, none, none, none, none, none, none] M := by
  simp only [ir_sets_net, Ss.wp, S.wp, E.wp, E.wpT, Es.wp, Es.wpV, Es.wpT, Oe.wpO, Oe.wpT, Wk.wp, wSeq, wRet, wRetN, wNext, wNever, wDrop, wAsg, wIfS, wFor, wPar, wPar3, wFldS, wSetI, wSetK, wDnew, wMeth, wBm, wAndV, wOrV, wNotV, wAnd, wOr, wNot, wTest, wTru, wIf, w1, w2, w3, wVar, wC, wNil, wCons, wTup, wLst, wCall, wCallK, wO0, wO1, wSl, wLc, wISeq, wIR1, wIR2, wIZip, wIStr, wIEn, wDc, DcK.emp, Wk.wp, binF, cmpF, isaD, negD, Blt.spec, Bm.spec, Bm.ty, List.getElem?_cons_zero, List.getElem?_cons_succ, Option.some.injEq, exists_eq_left', exists_eq_left, exists_and_left, List.set_cons_zero, List.set_cons_succ, asn_name, asn_tup, asns_nil, asns_name, wipeD, tru_bl, tru_int, tru_non, tru_tup, bodyEnds, List.map_cons, List.map_nil, ↓reduceIte, Bool.false_eq_true, and_true, true_and, D.str.injEq, D.int.injEq, D.ref.injEq, D.tup.injEq, D.bl.injEq]
  refine ⟨hh, n, _, _, _, _, rfl, hm, h0, h4, fun M1 k1 => ?_⟩
  simp only [Ss.wp, S.wp, E.wp, E.wpT, Es.wp, Es.wpV, Es.wpT, Oe.wpO, Oe.wpT, Wk.wp, wSeq, wRet, wRetN, wNext, wNever, wDrop, wAsg, wIfS, wFor, wPar, wPar3, wFldS, wSetI, wSetK, wDnew, wMeth, wBm, wAndV, wOrV, wNotV, wAnd, wOr, wNot, wTest, wTru, wIf, w1, w2, w3, wVar, wC, wNil, wCons, wTup, wLst, wCall, wCallK, wO0, wO1, wSl, wLc, wISeq, wIR1, wIR2, wIZip, wIStr, wIEn, wDc, DcK.emp, Wk.wp, binF, cmpF, isaD, negD, Blt.spec, Bm.spec, Bm.ty, List.getElem?_cons_zero, List.getElem?_cons_succ, Option.some.injEq, exists_eq_left', exists_eq_left, exists_and_left, List.set_cons_zero, List.set_cons_succ, asn_name, asn_tup, asns_nil, asns_name, wipeD, tru_bl, tru_int, tru_non, tru_tup, bodyEnds, List.map_cons, List.map_nil, ↓reduceIte, Bool.false_eq_true, and_true, true_and, D.str.injEq, D.int.injEq, D.ref.injEq, D.tup.injEq, D.bl.injEq]
  refine ⟨by simp [sizeLine_eq], fun p hp => ⟨by simp [sizeLine_eq], fun q hq => ?_⟩⟩
  have zS : (setsL n).length ≤ 15 := by
    rw [sets_len]
    have : 2 ^ n.toNat ≤ 2 ^ 4 := Nat.pow_le_pow_right (by decide) (by omega)
    omega
  have zz : ∀ xs, .tup xs ∈ setsL n → xs.length ≤ sizeLine := fun xs hx => by
    obtain ⟨is, e, hi⟩ := (found_ok _ _ rfl (rng_nums n)).2.2 _ (mem_sort.mp (List.mem_of_mem_drop hx))
    cases e
    rw [List.length_map, sizeLine_eq]
    rw [rng_len] at hi
    omega
  have npq : p ≠ q := fun z => by subst z; rw [up_same] at hq; cases hq
  have hq' : M1 q = none := by rw [up_ne (Ne.symm npq)] at hq; exact hq
  have k2 : Keep M1 (up (up M1 p (.lst [])) q (.lst [])) := (Keep.new hp).trans (.new hq)
  refine ⟨_, _, _, rfl, hh, _, _, rfl, k2 _ _ (k1 _ _ hm), look_rules, _, seqT_t, ?_⟩
  refine loopR_P c (M := M1) (Sx := setsL n) (kp := fun _ => True) (fun d hd => sets_mem hd) zS zz hr (fun M' _ => enT_t) (fun _ _ => trivial) hp k2 (by rw [up_ne npq]; exact up_same) up_same npq fun ρ M2 vn vp va vo k3 hp2 hq2 e => ?_
  subst e
  refine ⟨_, rfl, hh, _, _, rfl, k3 _ _ (k1 _ _ hm), look_lists, _, seqT_t, ?_⟩
  refine loopB_P c (M := M1) (Sx := setsL n) (kp := fun _ => True) (fun d hd => sets_mem hd) zS zz hl (fun M' _ => enT_t) (fun _ _ => trivial) hq' k3 hp2 hq2 npq fun ρ M3 vn vp vm va vo k4 hp3 hq3 e => ?_
  subst e
  refine ⟨_, rfl, len_t ⟨_, rfl, ?_⟩⟩
  refine sort_ties links_tie hp3 fun r hr5 => ⟨_, _, rfl, .inr ⟨r, rfl, up_same⟩, _, rfl, ?_⟩
  have k5 : Keep M3 (up M3 r (.lst (sortD (linksOf rs (setsL n))))) := .new hr5
  refine sort_ties labels_tie (k5 _ _ hq3) fun s hs5 => ⟨_, _, rfl, .inr ⟨s, rfl, up_same⟩, ?_⟩
  intro x hx
  have kk := k1.trans (k4.trans (k5.trans (Keep.new (o := .lst (sortD (labelsOf ls (setsL n)))) hs5)))
  refine ⟨x, knotsL n, _, _, rfl, up_same, ok, fun M' k' hx' => ⟨rfl, h M' x (fun a o e => ?_) (kk.none hx) hx'⟩⟩
  have e2 := kk a o e
  have nx : a ≠ x := fun z => by subst z; rw [e2] at hx; cases hx
  exact k' a o nx (by rw [up_ne nx]; exact e2)
end DL

set_option Elab.async false
set_option linter.all false
set_option maxRecDepth 100000
set_option maxHeartbeats 4000000
/-! DLv: readings as equations (for simp). -/
namespace DL
open PySem L2
theorem add_ii {i j : Int} {M : Mp} {Q : DQ} : addD (.int i) (.int j) M Q = Q (.int (i + j)) M := rfl
theorem add_ss {a b : Str} {M : Mp} {Q : DQ} : addD (.str a) (.str b) M Q = (a.length + b.length ≤ sizeLine ∧ Q (.str (a ++ b)) M) := rfl
theorem add_tt {a b : List D} {M : Mp} {Q : DQ} : addD (.tup a) (.tup b) M Q = (a.length + b.length ≤ sizeLine ∧ Q (.tup (a ++ b)) M) := rfl
theorem mul_ii {i j : Int} {M : Mp} {Q : DQ} : mulD (.int i) (.int j) M Q = (CMul i j ∧ Q (.int (i * j)) M) := rfl
theorem int_ii {C : Int → Int → Prop} {f : Int → Int → Int} {i j : Int} {M : Mp} {Q : DQ} : intD C f (.int i) (.int j) M Q = (C i j ∧ Q (.int (f i j)) M) := propext ⟨by rintro ⟨a, b, e1, e2, h⟩; cases e1; cases e2; exact h, fun h => ⟨i, j, rfl, rfl, h⟩⟩
theorem abs_i {i : Int} {M : Mp} {Q : DQ} : absS [.int i] M Q = Q (.int (if i < 0 then -i else i)) M := propext ⟨by rintro ⟨a, e1, h⟩; cases e1; exact h, fun h => ⟨i, rfl, h⟩⟩
theorem int_i {i : Int} {M : Mp} {Q : DQ} : intS [.int i] M Q = Q (.int i) M := propext ⟨by rintro (⟨a, e1, h⟩ | ⟨a, e1, h⟩) <;> cases e1; exact h, fun h => .inl ⟨i, rfl, h⟩⟩
theorem int_b {i : Bool} {M : Mp} {Q : DQ} : intS [.bl i] M Q = Q (.int (if i then 1 else 0)) M := propext ⟨by rintro (⟨a, e1, h⟩ | ⟨a, e1, h⟩) <;> cases e1; exact h, fun h => .inr ⟨i, rfl, h⟩⟩
theorem eq_ii {neg : Bool} {i j : Int} {M : Mp} {Q : DQ} : eqD neg (.int i) (.int j) M Q = Q (.bl (if neg then !decide (i = j) else decide (i = j))) M := propext ⟨by
  rintro (⟨p, q, h1, h2, _, _, h⟩ | ⟨a, b, e1, _⟩)
  · cases h1
    cases h2
    rw [eqv_int] at h
    exact h
  · exact absurd e1 (by simp), eq_int⟩
theorem eqv_str (i j : Str) : PyData.eqv (.str i) (.str j) = decide (i = j) := by
  simp only [PyData.eqv]
  by_cases h : i = j
  · simp [h]
  · simp [h]
theorem eq_ss {neg : Bool} {i j : Str} {M : Mp} {Q : DQ} : eqD neg (.str i) (.str j) M Q = Q (.bl (if neg then !decide (i = j) else decide (i = j))) M := propext ⟨by
  rintro (⟨p, q, h1, h2, _, _, h⟩ | ⟨a, b, e1, e2, h⟩)
  · cases h1
    cases h2
    rw [eqv_str] at h
    exact h
  · cases e1; cases e2; exact h, fun h => .inr ⟨i, j, rfl, rfl, h⟩⟩
theorem lt_ii {i j : Int} {M : Mp} {Q : DQ} : ordD .lt (.int i) (.int j) M Q = Q (.bl (decide (i < j))) M := propext ⟨by
  rintro (⟨a, b, e1, e2, h⟩ | ⟨p, q, h1, h2, _, _, _, h⟩)
  · cases e1; cases e2; exact h
  · cases h1; cases h2
    simp only [Ord.of, PySem.W.dataLt_int] at h
    exact h, fun h => ord_int (o := .lt) h⟩
theorem le_ii {i j : Int} {M : Mp} {Q : DQ} : ordD .le (.int i) (.int j) M Q = Q (.bl (decide (i ≤ j))) M := propext ⟨by
  rintro (⟨a, b, e1, e2, h⟩ | ⟨p, q, h1, h2, _, _, _, h⟩)
  · cases e1; cases e2; exact h
  · cases h1; cases h2
    have e : (!decide (j < i)) = decide (i ≤ j) := by by_cases z : j < i <;> simp [z] <;> omega
    simp only [Ord.of, PySem.W.dataLt_int, e] at h
    exact h, fun h => ord_int (o := .le) h⟩
theorem gt_ii {i j : Int} {M : Mp} {Q : DQ} : ordD .gt (.int i) (.int j) M Q = Q (.bl (decide (j < i))) M := propext ⟨by
  rintro (⟨a, b, e1, e2, h⟩ | ⟨p, q, h1, h2, _, _, _, h⟩)
  · cases e1; cases e2; exact h
  · cases h1; cases h2
    simp only [Ord.of, PySem.W.dataLt_int] at h
    exact h, fun h => ord_int (o := .gt) h⟩
theorem ge_ii {i j : Int} {M : Mp} {Q : DQ} : ordD .ge (.int i) (.int j) M Q = Q (.bl (decide (j ≤ i))) M := propext ⟨by
  rintro (⟨a, b, e1, e2, h⟩ | ⟨p, q, h1, h2, _, _, _, h⟩)
  · cases e1; cases e2; exact h
  · cases h1; cases h2
    have e : (!decide (i < j)) = decide (j ≤ i) := by by_cases z : i < j <;> simp [z] <;> omega
    simp only [Ord.of, PySem.W.dataLt_int, e] at h
    exact h, fun h => ord_int (o := .ge) h⟩
theorem ix_tup {ds : List D} {n : Nat} {d : D} {M : Mp} {Q : DQ} (h : ds[n]? = some d) : ixD (.tup ds) (.int (n : Int)) M Q = Q d M := propext ⟨by
  rintro (⟨xs, i, x, e1, e2, e3, q⟩ | ⟨_, _, _, e1, _⟩ | ⟨_, _, _, _, e1, _⟩)
  · rcases e1 with e1 | ⟨a, e1, _⟩
    · cases e1; cases e2
      rw [atI_nat h] at e3
      cases e3
      exact q
    · cases e1
  · exact absurd e1 (by simp)
  · exact absurd e1 (by simp), ix_t n h⟩
theorem ix_0 {x : D} {ds : List D} {M : Mp} {Q : DQ} : ixD (.tup (x :: ds)) (.int 0) M Q = Q x M := ix_tup (n := 0) rfl
theorem ix_1 {x y : D} {ds : List D} {M : Mp} {Q : DQ} : ixD (.tup (x :: y :: ds)) (.int 1) M Q = Q y M := ix_tup (n := 1) rfl
theorem ix_2 {x y z : D} {ds : List D} {M : Mp} {Q : DQ} : ixD (.tup (x :: y :: z :: ds)) (.int 2) M Q = Q z M := ix_tup (n := 2) rfl
theorem len_tt {ds : List D} {M : Mp} {Q : DQ} : lenS [.tup ds] M Q = Q (.int ds.length) M := propext ⟨by
  rintro ⟨d, n, e1, e2, q⟩
  cases e1
  have e2 : n = ds.length := e2
  subst e2
  exact q, len_t⟩
theorem tup_n {p : Addr} {xs : List D} {M : Mp} {Q : DQ} : tupleS [.ref p] (up M p (.lst xs)) Q = Q (.tup xs) (up M p (.lst xs)) := propext ⟨by
  rintro ⟨d, ys, e1, e2, q⟩
  cases e1
  rcases e2 with e2 | ⟨a, e2, e3⟩
  · cases e2
  · cases e2
    rw [up_same] at e3
    cases e3
    exact q, tuple_new⟩
end DL

set_option Elab.async false
set_option linter.all false
set_option maxRecDepth 100000
set_option maxHeartbeats 4000000
/-! DLw: how long a repr is. -/
namespace DL
open PySem L2
theorem piled_le {n : Nat} : ∀ {ts : List Str}, (∀ t ∈ ts, t.length ≤ n) → piled ts ≤ ts.length * (n + 2)
  | [], _ => by simp [piled]
  | t :: ts, h => by
    have h1 := h t List.mem_cons_self
    have h2 := piled_le (ts := ts) fun x hx => h x (List.mem_cons_of_mem _ hx)
    have e : piled (t :: ts) = (t.length + 2) + piled ts := by simp [piled]
    rw [e, List.length_cons, Nat.add_mul]
    omega
theorem tupleText_le {n : Nat} {ts : List Str} (h : ∀ t ∈ ts, t.length ≤ n) : (tupleText ts).length ≤ ts.length * (n + 2) + 3 := by
  unfold tupleText
  rw [strLen_append, strLen_append]
  have e1 : (("(" : String) : Str).length = 1 := rfl
  have e2 : ((if ts.length == 1 then ",)" else ")" : String) : Str).length ≤ 2 := by
    split
    · exact Nat.le_refl 2
    · exact (by decide : (1 : Nat) ≤ 2)
  have e3 : (Str.join ", " ts).length ≤ ts.length * (n + 2) := by
    cases ts with
    | nil => simp [Str.join]; rfl
    | cons t ts =>
      have := join_length_add (t :: ts) (by simp)
      have := piled_le h
      omega
  rw [e1]
  omega
theorem shownAll_map : ∀ ds : List D, PyData.shownAll (pys ds) = ds.map fun d => (py d).shown
  | [] => by simp [pys, PyData.shownAll]
  | d :: ds => by simp [pys, PyData.shownAll, shownAll_map ds]
theorem shown_tup {n : Nat} {ds : List D} (h : ∀ d ∈ ds, (py d).shown.length ≤ n) : (py (.tup ds)).shown.length ≤ ds.length * (n + 2) + 3 := by
  have e : (py (.tup ds)).shown = tupleText (ds.map fun d => (py d).shown) := by simp only [py, PyData.shown, shownAll_map]
  rw [e]
  have := tupleText_le (n := n) (ts := ds.map fun d => (py d).shown) fun t ht => by
    obtain ⟨d, hd, rfl⟩ := List.mem_map.mp ht
    exact h d hd
  rwa [List.length_map] at this
theorem shown_int {i : Int} {k : Nat} (hk : 0 < k) (h : i.natAbs < 10 ^ k) : (py (.int i)).shown.length ≤ k + 1 := by
  have e : (py (.int i)).shown = Str.ofString (toString i) := by simp only [py, PyData.shown]
  rw [e]
  have := int_text_length_le10 hk h
  rw [ofString_length]
  exact this
theorem shown_name {x : Str} (h : nameS x = true) : (py (.str x)).shown.length ≤ 62 := by
  have e : (py (.str x)).shown = reprText x := by simp only [py, PyData.shown]
  rw [e]
  unfold nameS at h
  rw [Bool.and_eq_true, Bool.and_eq_true] at h
  obtain ⟨⟨_, h2⟩, h3⟩ := h
  have h2 := of_decide_eq_true h2
  refine Nat.le_trans (StrLaws.reprText_len x fun c hc => ?_) (by omega)
  have := List.all_eq_true.mp h3 c hc
  unfold isLetter at this
  rw [Bool.and_eq_true] at this
  have := of_decide_eq_true this.2
  exact Nat.lt_of_le_of_lt this (by decide)
theorem showable_all : ∀ {ds : List D}, (∀ d ∈ ds, (py d).showable = true) → PyData.showableAll (pys ds) = true
  | [], _ => by simp [pys, PyData.showableAll]
  | d :: ds, h => by
    simp only [pys, PyData.showableAll, Bool.and_eq_true]
    exact ⟨h d List.mem_cons_self, showable_all fun x hx => h x (List.mem_cons_of_mem _ hx)⟩
theorem showable_tup {ds : List D} (h : ∀ d ∈ ds, (py d).showable = true) : (py (.tup ds)).showable = true := by
  simp only [py, PyData.showable]
  exact showable_all h
theorem showable_str (x : Str) : (py (.str x)).showable = true := by simp only [py, PyData.showable]
theorem showable_int {i : Int} (h : i.natAbs < 2 ^ 64) : (py (.int i)).showable = true := by
  simp only [py, PyData.showable, decide_eq_true_eq]
  rcases Nat.eq_zero_or_pos i.natAbs with e | e
  · rw [e]; decide
  · have := (Nat.log2_lt (by omega)).mpr h
    omega
end DL

set_option Elab.async false
set_option linter.all false
set_option maxRecDepth 100000
set_option maxHeartbeats 4000000
/-! W6: the law's draws. -/
namespace DL
open PySem L2
def S_l_take (_ : Cs) : Spec := fun ds M Q => ∃ p upto, ds = [.ref p, .int upto] ∧ M p = some .pot ∧ 0 < upto ∧ upto ≤ 1000000 ∧ ∀ r, 0 ≤ r → r < upto → Q (.int r) M
def S_l_of (_ : Cs) : Spec := fun ds M Q => ∃ p q xs, ds = [.ref p, .ref q] ∧ M p = some .pot ∧ M q = some (.lst xs) ∧ xs ≠ [] ∧ xs.length ≤ 1000000 ∧ ∀ x ∈ xs, Q x M
abbrev N_l_of : List Str := ["_law_pot_here", "_law_some"]
def ir_l_of (c : Cs) : Ss := (.cons (.ret (.idx (.var 1) (.call "_law_take" (S_l_take c) (.cons (.var 0) (.cons (.bcall .len (.cons (.var 1) .nil)) .nil))))) .nil)
theorem wp_l_of (c : Cs) {p q : Addr} {xs : List D} {M : Mp} {Q : DQ} (hp : M p = some .pot) (hq : M q = some (.lst xs)) (hx : xs ≠ []) (hz : xs.length ≤ 1000000) (h : ∀ x ∈ xs, Q x M) : (ir_l_of c).wp (bodyEnds Q) [some (.ref p), some (.ref q)] M := by
  simp only [ir_l_of, Ss.wp, S.wp, E.wp, E.wpT, Es.wp, Es.wpV, Es.wpT, Oe.wpO, Oe.wpT, Wk.wp, wSeq, wRet, wRetN, wNext, wNever, wDrop, wAsg, wIfS, wFor, wPar, wPar3, wFldS, wSetI, wSetK, wDnew, wMeth, wBm, wAndV, wOrV, wNotV, wAnd, wOr, wNot, wTest, wTru, wIf, w1, w2, w3, wVar, wC, wNil, wCons, wTup, wLst, wCall, wCallK, wO0, wO1, wSl, wLc, wISeq, wIR1, wIR2, wIZip, wIStr, wIEn, wDc, DcK.emp, Wk.wp, binF, cmpF, isaD, negD, Blt.spec, Bm.spec, Bm.ty, List.getElem?_cons_zero, List.getElem?_cons_succ, Option.some.injEq, exists_eq_left', exists_eq_left, exists_and_left, List.set_cons_zero, List.set_cons_succ, asn_name, asn_tup, asns_nil, asns_name, wipeD, tru_bl, tru_int, tru_non, tru_tup, bodyEnds, List.map_cons, List.map_nil, ↓reduceIte, Bool.false_eq_true, and_true, true_and, D.str.injEq, D.int.injEq, D.ref.injEq, D.tup.injEq, D.bl.injEq]
  refine len_l hq ⟨p, _, rfl, hp, ?_, by omega, fun r r0 r1 => ?_⟩
  · have : 0 < xs.length := List.length_pos_iff.mpr hx
    omega
  · obtain ⟨n, rfl⟩ := Int.eq_ofNat_of_zero_le r0
    have hn : n < xs.length := by omega
    exact ix_l n hq (List.getElem?_eq_getElem hn) (h _ (List.getElem_mem hn))
/-! ### all pairs -/
def prD (i j : Nat) : D := .tup [.int i, .int j]
def allPr (s : Nat) : List D := (List.range (s * s)).map fun a => prD (a / s) (a % s)
def S_l_all_pairs (_ : Cs) : Spec := fun ds M Q => ∃ s : Nat, ds = [.int s] ∧ 0 < s ∧ s ≤ 4 ∧ ∀ M' p, Keep M M' → M' p = some (.lst (allPr s)) → Q (.ref p) M'
abbrev N_l_all_pairs : List Str := ["_law_size", "_law_at"]
def ir_l_all_pairs (c : Cs) : Ss := (.cons (.ret (.lc [("_law_at", 1)] (.name 1) (.r1 (.bin .Mult (.var 0) (.var 0))) .none (.tup (.cons (.bin .FloorDiv (.var 1) (.var 0)) (.cons (.bin .Mod (.var 1) (.var 0)) .nil))))) .nil)
theorem wp_l_all_pairs (c : Cs) {s : Nat} {M : Mp} {Q : DQ} (h0 : 0 < s) (h4 : s ≤ 4) (h : ∀ M' p, Keep M M' → M' p = some (.lst (allPr s)) → Q (.ref p) M') : (ir_l_all_pairs c).wp (bodyEnds Q) [some (.int s), none] M := by
  have hs : s * s ≤ 16 := Nat.mul_le_mul h4 h4
  simp only [ir_l_all_pairs, Ss.wp, S.wp, E.wp, E.wpT, Es.wp, Es.wpV, Es.wpT, Oe.wpO, Oe.wpT, Wk.wp, wSeq, wRet, wRetN, wNext, wNever, wDrop, wAsg, wIfS, wFor, wPar, wPar3, wFldS, wSetI, wSetK, wDnew, wMeth, wBm, wAndV, wOrV, wNotV, wAnd, wOr, wNot, wTest, wTru, wIf, w1, w2, w3, wVar, wC, wNil, wCons, wTup, wLst, wCall, wCallK, wO0, wO1, wSl, wLc, wISeq, wIR1, wIR2, wIZip, wIStr, wIEn, wDc, DcK.emp, Wk.wp, binF, cmpF, isaD, negD, Blt.spec, Bm.spec, Bm.ty, List.getElem?_cons_zero, List.getElem?_cons_succ, Option.some.injEq, exists_eq_left', exists_eq_left, exists_and_left, List.set_cons_zero, List.set_cons_succ, asn_name, asn_tup, asns_nil, asns_name, wipeD, tru_bl, tru_int, tru_non, tru_tup, bodyEnds, List.map_cons, List.map_nil, ↓reduceIte, Bool.false_eq_true, and_true, true_and, D.str.injEq, D.int.injEq, D.ref.injEq, D.tup.injEq, D.bl.injEq]
  have hs' : (s : Int) * (s : Int) = ((s * s : Nat) : Int) := (Int.natCast_mul s s).symm
  refine ⟨.inl ⟨by omega, by omega⟩, _, rfl, by unfold small62; rw [hs']; omega, by rw [rng_len, hs', sizeLine_eq]; omega, ?_⟩
  refine lcGo_map (T := ⟨rngI 0 ((s : Int) * s), fun _ => True⟩) (M0 := M) (fun x => match x with | .int a => some (.tup [.int (a / s), .int (a % s)]) | _ => none) (fun _ _ => trivial) _ M (.refl _) (fun x hx acc M1 k k1 hk => ?_) fun M1 k1 p hp => ?_
  · obtain ⟨a, rfl⟩ := rng_nums _ x hx
    refine ⟨_, rfl, yes_if ?_⟩
    simp only [Ss.wp, S.wp, E.wp, E.wpT, Es.wp, Es.wpV, Es.wpT, Oe.wpO, Oe.wpT, Wk.wp, wSeq, wRet, wRetN, wNext, wNever, wDrop, wAsg, wIfS, wFor, wPar, wPar3, wFldS, wSetI, wSetK, wDnew, wMeth, wBm, wAndV, wOrV, wNotV, wAnd, wOr, wNot, wTest, wTru, wIf, w1, w2, w3, wVar, wC, wNil, wCons, wTup, wLst, wCall, wCallK, wO0, wO1, wSl, wLc, wISeq, wIR1, wIR2, wIZip, wIStr, wIEn, wDc, DcK.emp, Wk.wp, binF, cmpF, isaD, negD, Blt.spec, Bm.spec, Bm.ty, List.getElem?_cons_zero, List.getElem?_cons_succ, Option.some.injEq, exists_eq_left', exists_eq_left, exists_and_left, List.set_cons_zero, List.set_cons_succ, asn_name, asn_tup, asns_nil, asns_name, wipeD, tru_bl, tru_int, tru_non, tru_tup, bodyEnds, List.map_cons, List.map_nil, ↓reduceIte, Bool.false_eq_true, and_true, true_and, D.str.injEq, D.int.injEq, D.ref.injEq, D.tup.injEq, D.bl.injEq]
    refine ⟨a, s, rfl, rfl, ⟨by omega, by omega⟩, a, s, rfl, rfl, by omega, by simp [sizeLine_eq], ?_⟩
    exact hk M1 k1
  · refine h _ p (k1.trans (.new hp)) ?_
    rw [up_same]
    congr 2
    unfold rngI allPr
    rw [hs', Int.sub_zero, Int.toNat_natCast, List.filterMap_map, ← List.filterMap_eq_map']
    congr 1
    funext a
    simp [prD]
/-! ### a draw -/
abbrev N_l_take : List Str := ["_law_pot_here", "_law_upto", "_law_digit"]
def ir_l_take (c : Cs) : Ss := (.cons (.ife (.cmp .Gt (.idx (.var 0) (.int 0)) (.int 0)) (.cons (.asg (.name 2) (.bin .Mod (.idx (.var 0) (.int 0)) (.var 1))) (.cons (.setI (.var 0) (.int 0) (.bin .FloorDiv (.idx (.var 0) (.int 0)) (.var 1))) (.cons (.ret (.var 2)) .nil))) .nil) (.cons (.setI (.var 0) (.int 1) (.bin .Mod (.bin .Add (.bin .Mult (.idx (.var 0) (.int 1)) (.int 1181783497276652981)) (.int 12345678910987)) (.int 2305843009213693951))) (.cons (.ret (.bin .Mod (.bin .FloorDiv (.bin .Mod (.bin .Mult (.bin .FloorDiv (.idx (.var 0) (.int 1)) (.int 65537)) (.bin .Add (.bin .Mod (.idx (.var 0) (.int 1)) (.int 65537)) (.int 3))) (.int 2305843009213693921)) (.int 97)) (.var 1))) .nil)))
theorem wp_l_take (c : Cs) {p : Addr} {upto g m : Int} {M : Mp} {Q : DQ} (h0 : 0 < upto) (h1 : upto ≤ 1000000) (ok : PotOk g m) (hp : M p = some (.lst [.int g, .int m]))
    (h : ∀ r g' m', 0 ≤ r → r < upto → PotOk g' m' → Q (.int r) (up M p (.lst [.int g', .int m']))) : (ir_l_take c).wp (bodyEnds Q) [some (.ref p), some (.int upto), none] M := by
  obtain ⟨g0, g1, m0, m1⟩ := ok
  simp only [ir_l_take, Ss.wp, S.wp, E.wp, E.wpT, Es.wp, Es.wpV, Es.wpT, Oe.wpO, Oe.wpT, Wk.wp, wSeq, wRet, wRetN, wNext, wNever, wDrop, wAsg, wIfS, wFor, wPar, wPar3, wFldS, wSetI, wSetK, wDnew, wMeth, wBm, wAndV, wOrV, wNotV, wAnd, wOr, wNot, wTest, wTru, wIf, w1, w2, w3, wVar, wC, wNil, wCons, wTup, wLst, wCall, wCallK, wO0, wO1, wSl, wLc, wISeq, wIR1, wIR2, wIZip, wIStr, wIEn, wDc, DcK.emp, Wk.wp, binF, cmpF, isaD, negD, Blt.spec, Bm.spec, Bm.ty, List.getElem?_cons_zero, List.getElem?_cons_succ, Option.some.injEq, exists_eq_left', exists_eq_left, exists_and_left, List.set_cons_zero, List.set_cons_succ, asn_name, asn_tup, asns_nil, asns_name, wipeD, tru_bl, tru_int, tru_non, tru_tup, bodyEnds, List.map_cons, List.map_nil, ↓reduceIte, Bool.false_eq_true, and_true, true_and, D.str.injEq, D.int.injEq, D.ref.injEq, D.tup.injEq, D.bl.injEq]
  refine ix_l 0 hp rfl (ord_int ⟨_, rfl, ?_⟩)
  by_cases hg : 0 < g
  · have e : decide ((0 : Int) < g) = true := decide_eq_true hg
    simp only [e, if_true]
    refine ix_l 0 hp rfl ⟨g, upto, rfl, rfl, h0, ?_⟩
    simp only [Ss.wp, S.wp, E.wp, E.wpT, Es.wp, Es.wpV, Es.wpT, Oe.wpO, Oe.wpT, Wk.wp, wSeq, wRet, wRetN, wNext, wNever, wDrop, wAsg, wIfS, wFor, wPar, wPar3, wFldS, wSetI, wSetK, wDnew, wMeth, wBm, wAndV, wOrV, wNotV, wAnd, wOr, wNot, wTest, wTru, wIf, w1, w2, w3, wVar, wC, wNil, wCons, wTup, wLst, wCall, wCallK, wO0, wO1, wSl, wLc, wISeq, wIR1, wIR2, wIZip, wIStr, wIEn, wDc, DcK.emp, Wk.wp, binF, cmpF, isaD, negD, Blt.spec, Bm.spec, Bm.ty, List.getElem?_cons_zero, List.getElem?_cons_succ, Option.some.injEq, exists_eq_left', exists_eq_left, exists_and_left, List.set_cons_zero, List.set_cons_succ, asn_name, asn_tup, asns_nil, asns_name, wipeD, tru_bl, tru_int, tru_non, tru_tup, bodyEnds, List.map_cons, List.map_nil, ↓reduceIte, Bool.false_eq_true, and_true, true_and, D.str.injEq, D.int.injEq, D.ref.injEq, D.tup.injEq, D.bl.injEq]
    refine ix_l 0 hp rfl ⟨g, upto, rfl, rfl, ⟨h0, by omega⟩, ?_⟩
    simp only [Ss.wp, S.wp, E.wp, E.wpT, Es.wp, Es.wpV, Es.wpT, Oe.wpO, Oe.wpT, Wk.wp, wSeq, wRet, wRetN, wNext, wNever, wDrop, wAsg, wIfS, wFor, wPar, wPar3, wFldS, wSetI, wSetK, wDnew, wMeth, wBm, wAndV, wOrV, wNotV, wAnd, wOr, wNot, wTest, wTru, wIf, w1, w2, w3, wVar, wC, wNil, wCons, wTup, wLst, wCall, wCallK, wO0, wO1, wSl, wLc, wISeq, wIR1, wIR2, wIZip, wIStr, wIEn, wDc, DcK.emp, Wk.wp, binF, cmpF, isaD, negD, Blt.spec, Bm.spec, Bm.ty, List.getElem?_cons_zero, List.getElem?_cons_succ, Option.some.injEq, exists_eq_left', exists_eq_left, exists_and_left, List.set_cons_zero, List.set_cons_succ, asn_name, asn_tup, asns_nil, asns_name, wipeD, tru_bl, tru_int, tru_non, tru_tup, bodyEnds, List.map_cons, List.map_nil, ↓reduceIte, Bool.false_eq_true, and_true, true_and, D.str.injEq, D.int.injEq, D.ref.injEq, D.tup.injEq, D.bl.injEq]
    refine ⟨_, hp, 0, rfl, ?_⟩
    refine h _ _ _ (Int.emod_nonneg _ (by omega)) (Int.emod_lt_of_pos _ h0) ⟨Int.ediv_nonneg g0 (by omega), Int.lt_of_le_of_lt (Int.ediv_le_self _ g0) g1, m0, m1⟩
  · have e : decide ((0 : Int) < g) = false := decide_eq_false hg
    simp only [e, Bool.false_eq_true, if_false]
    have hM : (0 : Int) < 2305843009213693951 := by decide
    have b0 := Int.emod_nonneg (m * 1181783497276652981 + 12345678910987) (b := 2305843009213693951) (by decide)
    have b1 := Int.emod_lt_of_pos (m * 1181783497276652981 + 12345678910987) hM
    refine ix_l 1 hp rfl ⟨.inr ⟨by decide, by decide⟩, _, _, rfl, rfl, hM, _, hp, 1, rfl, ?_⟩
    show ixD (D.ref p) (D.int 1) (up M p (MO.lst ([D.int g, D.int m].set 1 (D.int ((m * 1181783497276652981 + 12345678910987) % 2305843009213693951))))) _
    generalize (m * 1181783497276652981 + 12345678910987) % 2305843009213693951 = m' at b0 b1 ⊢
    have hp' : up M p (.lst ([D.int g, D.int m].set 1 (.int m'))) p = some (.lst [.int g, .int m']) := up_same
    have c0 := Int.emod_nonneg m' (b := 65537) (by decide)
    have c1 := Int.emod_lt_of_pos m' (show (0 : Int) < 65537 by decide)
    refine ix_l 1 hp' rfl ⟨m', 65537, rfl, rfl, ⟨by decide, by decide⟩, ix_l 1 hp' rfl ⟨m', 65537, rfl, rfl, show (0 : Int) < 65537 by decide, ?_⟩⟩
    refine ⟨.inr ⟨show -(2 ^ 64) < m' % 65537 + 3 by omega, show m' % 65537 + 3 < 2 ^ 64 by omega⟩, _, _, rfl, rfl, show (0 : Int) < 2305843009213693921 by decide, _, _, rfl, rfl, ⟨by decide, by decide⟩, _, _, rfl, rfl, h0, ?_⟩
    exact h _ _ _ (Int.emod_nonneg _ (by omega)) (Int.emod_lt_of_pos _ h0) ⟨g0, g1, b0, b1⟩
end DL

set_option Elab.async false
set_option linter.all false
set_option maxRecDepth 100000
set_option maxHeartbeats 4000000
/-! W7: the law's pairs. -/
namespace DL
open PySem L2
theorem pair_ris : ∀ {xs : List D}, (xs.Pairwise fun x y => ltP x y = true) → risB xs = true
  | [], _ => rfl
  | [x], _ => rfl
  | x :: y :: r, h => by
    unfold risB
    rw [Bool.and_eq_true]
    rw [List.pairwise_cons] at h
    exact ⟨h.1 y List.mem_cons_self, pair_ris h.2⟩
theorem lt_pair (i j i' j' : Int) : ltP (.tup [.int i, .int j]) (.tup [.int i', .int j']) = decide (i < i' ∨ (i = i' ∧ j < j')) := by
  unfold ltP
  simp only [py, pys]
  exact PySem.W.dataLt_ii i j i' j'
structure PrsOk (s : Nat) (prs : List D) : Prop where
  each : ∀ x ∈ prs, isPr x 0 ((s : Int) - 1) = true
  rise : risB prs = true
  len : prs.length ≤ 16
theorem all_ris {s : Nat} (h : s ≤ 4) : (allPr s).Pairwise fun x y => ltP x y = true := by
  unfold allPr
  rw [List.pairwise_map]
  refine List.Pairwise.imp_of_mem ?_ (List.pairwise_lt_range (n := s * s))
  intro a b ha hb hab
  show ltP (prD _ _) (prD _ _) = true
  unfold prD
  rw [lt_pair, decide_eq_true_eq]
  have h1 : a / s ≤ b / s := Nat.div_le_div_right (Nat.le_of_lt hab)
  rcases Nat.lt_or_ge (a / s) (b / s) with h2 | h2
  · exact .inl (by omega)
  · refine .inr ⟨by omega, ?_⟩
    have e : a / s = b / s := Nat.le_antisymm h1 h2
    have ea := Nat.div_add_mod a s
    have eb := Nat.div_add_mod b s
    rw [e] at ea
    omega
theorem all_each {s : Nat} (h0 : 0 < s) : ∀ x ∈ allPr s, isPr x 0 ((s : Int) - 1) = true := fun x hx => by
  unfold allPr at hx
  obtain ⟨a, ha, rfl⟩ := List.mem_map.mp hx
  rw [List.mem_range] at ha
  have h1 : a / s < s := Nat.div_lt_of_lt_mul ha
  have h2 : a % s < s := Nat.mod_lt _ h0
  generalize a / s = u at h1
  generalize a % s = v at h2
  have e : ∀ z : Nat, z < s → isWh (.int (z : Int)) 0 ((s : Int) - 1) = true := fun z hz => by
    unfold isWh
    rw [Bool.and_eq_true]
    exact ⟨decide_eq_true (by omega), decide_eq_true (by omega)⟩
  show (isWh _ _ _ && isWh _ _ _) = true
  rw [e u h1, e v h2]
  rfl
theorem all_len (s : Nat) : (allPr s).length = s * s := by unfold allPr; simp
theorem PrsOk.sub {s : Nat} {prs : List D} (h0 : 0 < s) (h4 : s ≤ 4) (h : prs.Sublist (allPr s)) : PrsOk s prs := by
  refine ⟨fun x hx => all_each h0 x (h.subset hx), pair_ris ((all_ris h4).sublist h), ?_⟩
  have := h.length_le
  rw [all_len] at this
  exact Nat.le_trans this (Nat.mul_le_mul h4 h4)
def S_l_pairs (_ : Cs) : Spec := fun ds M Q => ∃ (p : Addr) (s : Nat), ds = [.ref p, .int s] ∧ M p = some .pot ∧ 0 < s ∧ s ≤ 4 ∧ ∀ M' prs, Keep M M' → PrsOk s prs → Q (.tup prs) M'
/-- a comprehension that keeps some -/
theorem lcGo_sub {T : DIt} {g : Tg} {wt : WT} {we : WE} {ρ : Ro} {fin : List D → Mp → Prop} {M0 : Mp} (keep : ∀ M, Keep M0 M → T.keep M) (todo : List D) (M : Mp) (hM : Keep M0 M)
    (hs : ∀ x ∈ todo, ∀ acc M (k : List D → Mp → Prop), Keep M0 M → (∀ M', Keep M0 M' → k (acc ++ [x]) M') → (∀ M', Keep M0 M' → k acc M') → ∃ ρ1, g.asn x ρ = some ρ1 ∧ wt ρ1 M fun b M1 => if b = true then we ρ1 M1 fun d M2 => k (acc ++ [d]) M2 else k acc M1)
    (hf : ∀ acc M, Keep M0 M → acc.Sublist todo → fin acc M) : lcGo T g wt we ρ fin todo [] M := by
  refine lcGo_inv (fun done acc M => acc.Sublist done ∧ Keep M0 M) (fun _ _ M h => keep M h.2) todo [] [] M ⟨.refl _, hM⟩ (fun x hx done acc M k h hk => ?_) (fun acc M h => hf acc M h.2 h.1)
  exact hs x hx acc M k h.2 (fun M' hM' => hk _ M' ⟨h.1.append (.refl _), hM'⟩) fun M' hM' => hk _ M' ⟨h.1.trans (List.sublist_append_left _ _), hM'⟩
def fstD : D → D
  | .tup (x :: _) => x
  | _ => .non
theorem rng_pair (n : Int) : (rngI 0 n).Pairwise fun x y => ∃ i j : Int, x = .int i ∧ y = .int j ∧ i < j := by
  unfold rngI
  rw [List.pairwise_map]
  exact (List.pairwise_lt_range (n := (n - 0).toNat)).imp fun {a b} h => ⟨_, _, rfl, rfl, by omega⟩
theorem rng_mem {n : Int} {x : D} (h : x ∈ rngI 0 n) : ∃ i : Int, x = .int i ∧ 0 ≤ i ∧ i < n := by
  unfold rngI at h
  obtain ⟨a, ha, rfl⟩ := List.mem_map.mp h
  rw [List.mem_range] at ha
  exact ⟨_, rfl, by omega, by omega⟩
theorem wh_of {i n : Int} (h0 : 0 ≤ i) (h1 : i < n) : isWh (.int i) 0 (n - 1) = true := by
  unfold isWh
  rw [Bool.and_eq_true]
  exact ⟨decide_eq_true h0, decide_eq_true (by omega)⟩
theorem PrsOk.by_first {s : Nat} {acc : List D} (h4 : s ≤ 4) (em : acc.map fstD = rngI 0 s) (ha : ∀ d ∈ acc, ∃ i r : Int, d = .tup [.int i, .int r] ∧ 0 ≤ r ∧ r < s) : PrsOk s acc := by
  refine ⟨fun x hx => ?_, pair_ris ?_, ?_⟩
  · obtain ⟨i, r, rfl, r0, r1⟩ := ha x hx
    obtain ⟨i', e, i0, i1⟩ := rng_mem (n := s) (x := .int i) (by rw [← em]; exact List.mem_map.mpr ⟨_, hx, rfl⟩)
    cases e
    show (isWh _ _ _ && isWh _ _ _) = true
    rw [wh_of i0 i1, wh_of r0 r1]
    rfl
  · have hp := rng_pair s
    rw [← em, List.pairwise_map] at hp
    refine hp.imp_of_mem fun {a b} h1 h2 hab => ?_
    obtain ⟨i, r, rfl, _⟩ := ha a h1
    obtain ⟨j, r', rfl, _⟩ := ha b h2
    obtain ⟨i', j', e1, e2, hlt⟩ := hab
    cases e1
    cases e2
    rw [lt_pair, decide_eq_true_eq]
    exact .inl hlt
  · have := congrArg List.length em
    rw [List.length_map, rng_len] at this
    omega
abbrev N_l_pairs : List Str := ["_law_pot_here", "_law_size", "_law_share", "_law_way", "_law_every", "_law_pair", "_law_mark"]
def ir_l_pairs (c : Cs) : Ss := (.cons (.asg (.tup (.cons (.name 3) (.cons (.name 4) .nil))) (.tup (.cons (.call "_law_take" (S_l_take c) (.cons (.var 0) (.cons (.int 8) .nil))) (.cons (.call "_law_all_pairs" (S_l_all_pairs c) (.cons (.var 1) .nil)) .nil)))) (.cons (.ife (.cmp .Eq (.var 3) (.int 0)) (.cons (.ret (.bcall .tuple (.cons (.lc [("_law_pair", 5)] (.name 5) (.seq (.var 4)) (.some (.cmp .LtE (.idx (.var 5) (.int 0)) (.idx (.var 5) (.int 1)))) (.var 5)) .nil))) .nil) .nil) (.cons (.ife (.cmp .Eq (.var 3) (.int 1)) (.cons (.ret (.bcall .tuple (.cons (.lc [("_law_pair", 5)] (.name 5) (.seq (.var 4)) (.some (.cmp .Eq (.bin .Add (.idx (.var 5) (.int 0)) (.int 1)) (.idx (.var 5) (.int 1)))) (.var 5)) .nil))) .nil) .nil) (.cons (.ife (.cmp .Eq (.var 3) (.int 2)) (.cons (.ret (.bcall .tuple (.cons (.lc [("_law_pair", 5)] (.name 5) (.seq (.var 4)) (.some (.cmp .NotEq (.idx (.var 5) (.int 0)) (.idx (.var 5) (.int 1)))) (.var 5)) .nil))) .nil) .nil) (.cons (.ife (.cmp .Eq (.var 3) (.int 3)) (.cons (.ret (.bcall .tuple (.cons (.lc [("_law_mark", 6)] (.name 6) (.r1 (.var 1)) .none (.tup (.cons (.var 6) (.cons (.call "_law_take" (S_l_take c) (.cons (.var 0) (.cons (.var 1) .nil))) .nil)))) .nil))) .nil) .nil) (.cons (.asg (.name 2) (.bin .Add (.int 2) (.call "_law_take" (S_l_take c) (.cons (.var 0) (.cons (.int 3) .nil))))) (.cons (.ret (.bcall .tuple (.cons (.lc [("_law_pair", 5)] (.name 5) (.seq (.var 4)) (.some (.bop .Or (.cons (.cmp .Eq (.call "_law_take" (S_l_take c) (.cons (.var 0) (.cons (.var 2) .nil))) (.int 0)) (.cons (.bop .And (.cons (.cmp .Eq (.var 3) (.int 4)) (.cons (.cmp .Eq (.idx (.var 5) (.int 0)) (.idx (.var 5) (.int 1))) .nil))) .nil)))) (.var 5)) .nil))) .nil)))))))
theorem wp_l_pairs (c : Cs) {p : Addr} {s : Nat} {M : Mp} {Q : DQ} (hp : M p = some .pot) (h0 : 0 < s) (h4 : s ≤ 4) (h : ∀ M' prs, Keep M M' → PrsOk s prs → Q (.tup prs) M') : (ir_l_pairs c).wp (bodyEnds Q) [some (.ref p), some (.int s), none, none, none, none, none] M := by
  have zA : (allPr s).length ≤ sizeLine := by rw [all_len, sizeLine_eq]; have : s * s ≤ 16 := Nat.mul_le_mul h4 h4; omega
  simp only [ir_l_pairs, Ss.wp, S.wp, E.wp, E.wpT, Es.wp, Es.wpV, Es.wpT, Oe.wpO, Oe.wpT, Wk.wp, wSeq, wRet, wRetN, wNext, wNever, wDrop, wAsg, wIfS, wFor, wPar, wPar3, wFldS, wSetI, wSetK, wDnew, wMeth, wBm, wAndV, wOrV, wNotV, wAnd, wOr, wNot, wTest, wTru, wIf, w1, w2, w3, wVar, wC, wNil, wCons, wTup, wLst, wCall, wCallK, wO0, wO1, wSl, wLc, wISeq, wIR1, wIR2, wIZip, wIStr, wIEn, wDc, DcK.emp, Wk.wp, binF, cmpF, isaD, negD, Blt.spec, Bm.spec, Bm.ty, List.getElem?_cons_zero, List.getElem?_cons_succ, Option.some.injEq, exists_eq_left', exists_eq_left, exists_and_left, List.set_cons_zero, List.set_cons_succ, asn_name, asn_tup, asns_nil, asns_name, wipeD, tru_bl, tru_int, tru_non, tru_tup, bodyEnds, List.map_cons, List.map_nil, ↓reduceIte, Bool.false_eq_true, and_true, true_and, D.str.injEq, D.int.injEq, D.ref.injEq, D.tup.injEq, D.bl.injEq]
  refine ⟨p, 8, rfl, hp, by decide, by decide, fun way w0 w1 => ?_⟩
  refine ⟨s, rfl, h0, h4, fun M1 e k1 he => ?_⟩
  have tupF : ∀ acc M2, Keep M1 M2 → acc.Sublist (allPr s) → ∀ q, M2 q = none → tupleS [.ref q] (up M2 q (.lst acc)) Q := fun acc M2 k2 hs q hq =>
    ⟨_, acc, rfl, .inr ⟨q, rfl, up_same⟩, h _ acc (k1.trans (k2.trans (.new hq))) (.sub h0 h4 hs)⟩
  have sub : ∀ (wt : WT) (v : Option D) (M2 : Mp), Keep M1 M2 → (∀ i j : Nat, prD i j ∈ allPr s → ∀ M3 (k : Bool → Mp → Prop), Keep M1 M3 → (∀ b M4, Keep M1 M4 → k b M4) → wt [some (.ref p), some (.int s), v, some (.int way), some (.ref e), some (prD i j), none] M3 k) →
      ∃ T, seqT M2 (.ref e) T ∧ T.items.length ≤ sizeLine ∧ lcGo T (Tg.name 5) wt (wVar 5) [some (.ref p), some (.int s), v, some (.int way), some (.ref e), none, none] (fun acc M2 => ∀ q, M2 q = none → tupleS [D.ref q] (up M2 q (MO.lst acc)) Q) T.items [] M2 := by
    intro wt v M2 k2 hw
    refine ⟨_, seqT_l (k2 _ _ he), zA, ?_⟩
    refine lcGo_sub (T := ⟨allPr s, fun M => M e = some (.lst (allPr s))⟩) (M0 := M1) (fun M3 k3 => k3 _ _ he) (allPr s) M2 k2 (fun x hx acc M3 k k3 y1 y2 => ?_) fun acc M3 k3 hs => tupF acc M3 k3 hs
    obtain ⟨a, ha, rfl⟩ := List.mem_map.mp hx
    refine ⟨_, rfl, ?_⟩
    refine hw _ _ hx M3 _ k3 fun b M4 k4 => ?_
    cases b with
    | true =>
      rw [if_pos rfl]
      exact ⟨_, rfl, y1 M4 k4⟩
    | false =>
      rw [if_neg Bool.false_ne_true]
      exact y2 M4 k4
  have ix0 : ∀ {i j : Nat} {M : Mp} {Q : DQ}, Q (.int i) M → ixD (prD i j) (.int 0) M Q := fun q => ix_t 0 rfl q
  have ix1 : ∀ {i j : Nat} {M : Mp} {Q : DQ}, Q (.int j) M → ixD (prD i j) (.int 1) M Q := fun q => ix_t 1 rfl q
  refine ⟨by simp [sizeLine_eq], eq_int ⟨_, rfl, ?_⟩⟩
  by_cases c0 : way = 0
  · subst c0
    simp only [decide_true, if_true, Bool.false_eq_true, if_false]
    refine sub _ none M1 (.refl _) fun i j hij M3 k k3 hk => ?_
    simp only [Ss.wp, S.wp, E.wp, E.wpT, Es.wp, Es.wpV, Es.wpT, Oe.wpO, Oe.wpT, Wk.wp, wSeq, wRet, wRetN, wNext, wNever, wDrop, wAsg, wIfS, wFor, wPar, wPar3, wFldS, wSetI, wSetK, wDnew, wMeth, wBm, wAndV, wOrV, wNotV, wAnd, wOr, wNot, wTest, wTru, wIf, w1, w2, w3, wVar, wC, wNil, wCons, wTup, wLst, wCall, wCallK, wO0, wO1, wSl, wLc, wISeq, wIR1, wIR2, wIZip, wIStr, wIEn, wDc, DcK.emp, Wk.wp, binF, cmpF, isaD, negD, Blt.spec, Bm.spec, Bm.ty, List.getElem?_cons_zero, List.getElem?_cons_succ, Option.some.injEq, exists_eq_left', exists_eq_left, exists_and_left, List.set_cons_zero, List.set_cons_succ, asn_name, asn_tup, asns_nil, asns_name, wipeD, tru_bl, tru_int, tru_non, tru_tup, bodyEnds, List.map_cons, List.map_nil, ↓reduceIte, Bool.false_eq_true, and_true, true_and, D.str.injEq, D.int.injEq, D.ref.injEq, D.tup.injEq, D.bl.injEq]
    exact ix0 (ix1 (ord_int ⟨_, rfl, hk _ M3 k3⟩))
  simp only [c0, decide_false, Bool.false_eq_true, if_false]
  refine eq_int ⟨_, rfl, ?_⟩
  by_cases c1 : way = 1
  · subst c1
    simp only [decide_true, if_true, Bool.false_eq_true, if_false]
    refine sub _ none M1 (.refl _) fun i j hij M3 k k3 hk => ?_
    simp only [Ss.wp, S.wp, E.wp, E.wpT, Es.wp, Es.wpV, Es.wpT, Oe.wpO, Oe.wpT, Wk.wp, wSeq, wRet, wRetN, wNext, wNever, wDrop, wAsg, wIfS, wFor, wPar, wPar3, wFldS, wSetI, wSetK, wDnew, wMeth, wBm, wAndV, wOrV, wNotV, wAnd, wOr, wNot, wTest, wTru, wIf, w1, w2, w3, wVar, wC, wNil, wCons, wTup, wLst, wCall, wCallK, wO0, wO1, wSl, wLc, wISeq, wIR1, wIR2, wIZip, wIStr, wIEn, wDc, DcK.emp, Wk.wp, binF, cmpF, isaD, negD, Blt.spec, Bm.spec, Bm.ty, List.getElem?_cons_zero, List.getElem?_cons_succ, Option.some.injEq, exists_eq_left', exists_eq_left, exists_and_left, List.set_cons_zero, List.set_cons_succ, asn_name, asn_tup, asns_nil, asns_name, wipeD, tru_bl, tru_int, tru_non, tru_tup, bodyEnds, List.map_cons, List.map_nil, ↓reduceIte, Bool.false_eq_true, and_true, true_and, D.str.injEq, D.int.injEq, D.ref.injEq, D.tup.injEq, D.bl.injEq]
    refine ix0 ?_
    simp only [addD]
    exact ix1 (eq_int ⟨_, rfl, hk _ M3 k3⟩)
  simp only [c1, decide_false, Bool.false_eq_true, if_false]
  refine eq_int ⟨_, rfl, ?_⟩
  by_cases c2 : way = 2
  · subst c2
    simp only [decide_true, if_true, Bool.false_eq_true, if_false]
    refine sub _ none M1 (.refl _) fun i j hij M3 k k3 hk => ?_
    simp only [Ss.wp, S.wp, E.wp, E.wpT, Es.wp, Es.wpV, Es.wpT, Oe.wpO, Oe.wpT, Wk.wp, wSeq, wRet, wRetN, wNext, wNever, wDrop, wAsg, wIfS, wFor, wPar, wPar3, wFldS, wSetI, wSetK, wDnew, wMeth, wBm, wAndV, wOrV, wNotV, wAnd, wOr, wNot, wTest, wTru, wIf, w1, w2, w3, wVar, wC, wNil, wCons, wTup, wLst, wCall, wCallK, wO0, wO1, wSl, wLc, wISeq, wIR1, wIR2, wIZip, wIStr, wIEn, wDc, DcK.emp, Wk.wp, binF, cmpF, isaD, negD, Blt.spec, Bm.spec, Bm.ty, List.getElem?_cons_zero, List.getElem?_cons_succ, Option.some.injEq, exists_eq_left', exists_eq_left, exists_and_left, List.set_cons_zero, List.set_cons_succ, asn_name, asn_tup, asns_nil, asns_name, wipeD, tru_bl, tru_int, tru_non, tru_tup, bodyEnds, List.map_cons, List.map_nil, ↓reduceIte, Bool.false_eq_true, and_true, true_and, D.str.injEq, D.int.injEq, D.ref.injEq, D.tup.injEq, D.bl.injEq]
    exact ix0 (ix1 (eq_int ⟨_, rfl, hk _ M3 k3⟩))
  simp only [c2, decide_false, Bool.false_eq_true, if_false]
  refine eq_int ⟨_, rfl, ?_⟩
  by_cases c3 : way = 3
  · subst c3
    simp only [decide_true, if_true, Bool.false_eq_true, if_false]
    refine ⟨by unfold small62; omega, by rw [rng_len, sizeLine_eq]; omega, ?_⟩
    refine lcGo_inv (T := ⟨rngI 0 s, fun _ => True⟩) (fun done acc M2 => Keep M1 M2 ∧ acc.map fstD = done ∧ ∀ d ∈ acc, ∃ i r : Int, d = .tup [.int i, .int r] ∧ 0 ≤ r ∧ r < s) (fun _ _ _ _ => trivial) _ [] [] M1 ⟨.refl _, rfl, fun d hd => by cases hd⟩ (fun x hx done acc M2 k hJ hk => ?_) fun acc M2 hJ q hq => ?_
    · obtain ⟨k2, em, ha⟩ := hJ
      obtain ⟨i, rfl⟩ := rng_nums _ x hx
      refine ⟨_, rfl, yes_if ?_⟩
      simp only [Ss.wp, S.wp, E.wp, E.wpT, Es.wp, Es.wpV, Es.wpT, Oe.wpO, Oe.wpT, Wk.wp, wSeq, wRet, wRetN, wNext, wNever, wDrop, wAsg, wIfS, wFor, wPar, wPar3, wFldS, wSetI, wSetK, wDnew, wMeth, wBm, wAndV, wOrV, wNotV, wAnd, wOr, wNot, wTest, wTru, wIf, w1, w2, w3, wVar, wC, wNil, wCons, wTup, wLst, wCall, wCallK, wO0, wO1, wSl, wLc, wISeq, wIR1, wIR2, wIZip, wIStr, wIEn, wDc, DcK.emp, Wk.wp, binF, cmpF, isaD, negD, Blt.spec, Bm.spec, Bm.ty, List.getElem?_cons_zero, List.getElem?_cons_succ, Option.some.injEq, exists_eq_left', exists_eq_left, exists_and_left, List.set_cons_zero, List.set_cons_succ, asn_name, asn_tup, asns_nil, asns_name, wipeD, tru_bl, tru_int, tru_non, tru_tup, bodyEnds, List.map_cons, List.map_nil, ↓reduceIte, Bool.false_eq_true, and_true, true_and, D.str.injEq, D.int.injEq, D.ref.injEq, D.tup.injEq, D.bl.injEq]
      refine ⟨p, s, rfl, k2 _ _ (k1 _ _ hp), by omega, by omega, fun r r0 r1 => ?_⟩
      refine ⟨by simp [sizeLine_eq], hk _ _ ⟨k2, ?_, fun d hd => ?_⟩⟩
      · rw [List.map_append, em]; rfl
      · rcases List.mem_append.mp hd with hd | hd
        · exact ha d hd
        · obtain rfl := List.mem_singleton.mp hd
          exact ⟨i, r, rfl, r0, r1⟩
    · obtain ⟨k2, em, ha⟩ := hJ
      rw [List.nil_append] at em
      refine ⟨_, acc, rfl, .inr ⟨q, rfl, up_same⟩, h _ acc (k1.trans (k2.trans (.new hq))) (.by_first h4 em ha)⟩
  simp only [c3, decide_false, Bool.false_eq_true, if_false]
  refine ⟨p, 3, rfl, k1 _ _ hp, by decide, by decide, fun r r0 r1 => ?_⟩
  show ∃ T, seqT M1 (.ref e) T ∧ _
  refine sub _ (some (.int (2 + r))) M1 (.refl _) fun i j hij M3 k k3 hk => ?_
  simp only [Ss.wp, S.wp, E.wp, E.wpT, Es.wp, Es.wpV, Es.wpT, Oe.wpO, Oe.wpT, Wk.wp, wSeq, wRet, wRetN, wNext, wNever, wDrop, wAsg, wIfS, wFor, wPar, wPar3, wFldS, wSetI, wSetK, wDnew, wMeth, wBm, wAndV, wOrV, wNotV, wAnd, wOr, wNot, wTest, wTru, wIf, w1, w2, w3, wVar, wC, wNil, wCons, wTup, wLst, wCall, wCallK, wO0, wO1, wSl, wLc, wISeq, wIR1, wIR2, wIZip, wIStr, wIEn, wDc, DcK.emp, Wk.wp, binF, cmpF, isaD, negD, Blt.spec, Bm.spec, Bm.ty, List.getElem?_cons_zero, List.getElem?_cons_succ, Option.some.injEq, exists_eq_left', exists_eq_left, exists_and_left, List.set_cons_zero, List.set_cons_succ, asn_name, asn_tup, asns_nil, asns_name, wipeD, tru_bl, tru_int, tru_non, tru_tup, bodyEnds, List.map_cons, List.map_nil, ↓reduceIte, Bool.false_eq_true, and_true, true_and, D.str.injEq, D.int.injEq, D.ref.injEq, D.tup.injEq, D.bl.injEq]
  refine ⟨p, 2 + r, rfl, k3 _ _ (k1 _ _ hp), by omega, by omega, fun u u0 u1 => eq_int ⟨_, rfl, ?_⟩⟩
  by_cases hu : u = 0
  · simp only [hu, decide_true, Bool.false_eq_true, if_false, if_true]
    exact hk _ M3 k3
  · simp only [hu, decide_false, Bool.false_eq_true, if_false]
    refine eq_int ⟨_, rfl, ?_⟩
    by_cases hw : way = 4
    · simp only [hw, decide_true, Bool.false_eq_true, if_false, if_true]
      exact ix0 (ix1 (eq_int ⟨_, rfl, hk _ M3 k3⟩))
    · simp only [hw, decide_false, Bool.false_eq_true, if_false]
      exact hk _ M3 k3
end DL

set_option Elab.async false
set_option linter.all false
set_option maxRecDepth 100000
set_option maxHeartbeats 4000000
/-! W8: a pot, names. -/
namespace DL
open PySem L2
def S_l_pot (_ : Cs) : Spec := fun ds M Q => ∃ a ns k, ds = [.ref a, .int k] ∧ M a = some (.scr ns) ∧ ns.length ≤ 100 ∧ 0 ≤ k ∧ k ≤ 100 ∧ ∀ M' p, Keep M M' → M p = none → M' p = some .pot → Q (.ref p) M'
abbrev N_l_pot : List Str := ["_law_script", "_law_k", "_law_cell", "_law_great"]
def ir_l_pot (c : Cs) : Ss := (.cons (.asg (.name 2) (.bin .Add (.bin .Mult (.int 3) (.var 1)) (.bcall .len (.cons (.var 0) .nil)))) (.cons (.ife (.cmp .Lt (.var 1) (.bcall .len (.cons (.var 0) .nil))) (.cons (.asg (.name 2) (.idx (.var 0) (.var 1))) .nil) .nil) (.cons (.asg (.name 3) (.bin .Mult (.bin .Mod (.bcall .abs (.cons (.var 2) .nil)) .big) (.bcall .int (.cons (.cmp .GtE (.bcall .abs (.cons (.var 2) .nil)) (.bin .Pow (.int 10) (.int 18))) .nil)))) (.cons (.ret (.lst (.cons (.var 3) (.cons (.bin .Mod (.bin .Mult (.bin .Add (.bin .Add (.bin .Mod (.var 2) (.int 2305843009213693951)) (.bin .Mult (.bin .Mult (.int 7919) (.var 1)) (.var 1))) (.int 11)) (.int 48271)) (.int 2305843009213693951)) .nil)))) .nil))))
theorem wp_l_pot (c : Cs) {a : Addr} {ns : List Int} {k : Int} {M : Mp} {Q : DQ} (ha : M a = some (.scr ns)) (hz : ns.length ≤ 100) (h0 : 0 ≤ k) (h1 : k ≤ 100) (h : ∀ p g m, M p = none → PotOk g m → Q (.ref p) (up M p (.lst [.int g, .int m]))) : (ir_l_pot c).wp (bodyEnds Q) [some (.ref a), some (.int k), none, none] M := by
  have ln : ∀ {Q : DQ}, Q (.int ns.length) M → lenS [.ref a] M Q := fun q => ⟨_, ns.length, rfl, .inr ⟨ns, ha, rfl⟩, q⟩
  simp only [ir_l_pot, Ss.wp, S.wp, E.wp, E.wpT, Es.wp, Es.wpV, Es.wpT, Oe.wpO, Oe.wpT, Wk.wp, wSeq, wRet, wRetN, wNext, wNever, wDrop, wAsg, wIfS, wFor, wPar, wPar3, wFldS, wSetI, wSetK, wDnew, wMeth, wBm, wAndV, wOrV, wNotV, wAnd, wOr, wNot, wTest, wTru, wIf, w1, w2, w3, wVar, wC, wNil, wCons, wTup, wLst, wCall, wCallK, wO0, wO1, wSl, wLc, wISeq, wIR1, wIR2, wIZip, wIStr, wIEn, wDc, DcK.emp, Wk.wp, binF, cmpF, isaD, negD, Blt.spec, Bm.spec, Bm.ty, List.getElem?_cons_zero, List.getElem?_cons_succ, Option.some.injEq, exists_eq_left', exists_eq_left, exists_and_left, List.set_cons_zero, List.set_cons_succ, asn_name, asn_tup, asns_nil, asns_name, wipeD, tru_bl, tru_int, tru_non, tru_tup, bodyEnds, List.map_cons, List.map_nil, ↓reduceIte, Bool.false_eq_true, and_true, true_and, D.str.injEq, D.int.injEq, D.ref.injEq, D.tup.injEq, D.bl.injEq, add_ii, add_ss, add_tt, mul_ii, int_ii, abs_i, int_i, int_b, eq_ii, eq_ss, lt_ii, le_ii, gt_ii, ge_ii, ix_0, ix_1, ix_2, len_tt, tup_n]
  refine ⟨.inl ⟨by decide, by decide⟩, ln ?_⟩
  simp only [Ss.wp, S.wp, E.wp, E.wpT, Es.wp, Es.wpV, Es.wpT, Oe.wpO, Oe.wpT, Wk.wp, wSeq, wRet, wRetN, wNext, wNever, wDrop, wAsg, wIfS, wFor, wPar, wPar3, wFldS, wSetI, wSetK, wDnew, wMeth, wBm, wAndV, wOrV, wNotV, wAnd, wOr, wNot, wTest, wTru, wIf, w1, w2, w3, wVar, wC, wNil, wCons, wTup, wLst, wCall, wCallK, wO0, wO1, wSl, wLc, wISeq, wIR1, wIR2, wIZip, wIStr, wIEn, wDc, DcK.emp, Wk.wp, binF, cmpF, isaD, negD, Blt.spec, Bm.spec, Bm.ty, List.getElem?_cons_zero, List.getElem?_cons_succ, Option.some.injEq, exists_eq_left', exists_eq_left, exists_and_left, List.set_cons_zero, List.set_cons_succ, asn_name, asn_tup, asns_nil, asns_name, wipeD, tru_bl, tru_int, tru_non, tru_tup, bodyEnds, List.map_cons, List.map_nil, ↓reduceIte, Bool.false_eq_true, and_true, true_and, D.str.injEq, D.int.injEq, D.ref.injEq, D.tup.injEq, D.bl.injEq, add_ii, add_ss, add_tt, mul_ii, int_ii, abs_i, int_i, int_b, eq_ii, eq_ss, lt_ii, le_ii, gt_ii, ge_ii, ix_0, ix_1, ix_2, len_tt, tup_n]
  refine ln ?_
  simp only [Ss.wp, S.wp, E.wp, E.wpT, Es.wp, Es.wpV, Es.wpT, Oe.wpO, Oe.wpT, Wk.wp, wSeq, wRet, wRetN, wNext, wNever, wDrop, wAsg, wIfS, wFor, wPar, wPar3, wFldS, wSetI, wSetK, wDnew, wMeth, wBm, wAndV, wOrV, wNotV, wAnd, wOr, wNot, wTest, wTru, wIf, w1, w2, w3, wVar, wC, wNil, wCons, wTup, wLst, wCall, wCallK, wO0, wO1, wSl, wLc, wISeq, wIR1, wIR2, wIZip, wIStr, wIEn, wDc, DcK.emp, Wk.wp, binF, cmpF, isaD, negD, Blt.spec, Bm.spec, Bm.ty, List.getElem?_cons_zero, List.getElem?_cons_succ, Option.some.injEq, exists_eq_left', exists_eq_left, exists_and_left, List.set_cons_zero, List.set_cons_succ, asn_name, asn_tup, asns_nil, asns_name, wipeD, tru_bl, tru_int, tru_non, tru_tup, bodyEnds, List.map_cons, List.map_nil, ↓reduceIte, Bool.false_eq_true, and_true, true_and, D.str.injEq, D.int.injEq, D.ref.injEq, D.tup.injEq, D.bl.injEq, add_ii, add_ss, add_tt, mul_ii, int_ii, abs_i, int_i, int_b, eq_ii, eq_ss, lt_ii, le_ii, gt_ii, ge_ii, ix_0, ix_1, ix_2, len_tt, tup_n]
  have hT : (0 : Int) < potTop := by unfold potTop; exact Int.pow_pos (by decide)
  have kk : 0 ≤ 7919 * k := by omega
  have go : ∀ cell : Int, 0 < potTop ∧ CPow 10 18 ∧ CMul ((if cell < 0 then -cell else cell) % potTop) (if decide (10 ^ Int.toNat 18 ≤ if cell < 0 then -cell else cell) = true then 1 else 0) ∧ (0 : Int) < 2305843009213693951 ∧ CMul 7919 k ∧ CMul (7919 * k) k ∧
      CMul (cell % 2305843009213693951 + 7919 * k * k + 11) 48271 ∧ (0 : Int) < 2305843009213693951 ∧ [D.int ((if cell < 0 then -cell else cell) % potTop * if decide (10 ^ Int.toNat 18 ≤ if cell < 0 then -cell else cell) = true then 1 else 0), D.int ((cell % 2305843009213693951 + 7919 * k * k + 11) * 48271 % 2305843009213693951)].length ≤ sizeLine ∧
      ∀ p, M p = none → Q (D.ref p) (up M p (.lst [D.int ((if cell < 0 then -cell else cell) % potTop * if decide (10 ^ Int.toNat 18 ≤ if cell < 0 then -cell else cell) = true then 1 else 0), D.int ((cell % 2305843009213693951 + 7919 * k * k + 11) * 48271 % 2305843009213693951)])) := by
    intro cell
    generalize (if cell < 0 then -cell else cell) = z
    generalize decide ((10 : Int) ^ Int.toNat 18 ≤ z) = b
    refine ⟨hT, ⟨by decide, by decide, by decide⟩, .inr ?_, by decide, .inl ⟨by decide, by decide⟩, .inr ⟨by omega, by omega⟩, .inr ⟨by decide, by decide⟩, by decide, by simp [sizeLine_eq], fun p hp => h p _ _ hp ⟨?_, ?_, Int.emod_nonneg _ (by decide), Int.emod_lt_of_pos _ (by decide)⟩⟩
    · cases b <;> exact ⟨by decide, by decide⟩
    · cases b
      · simp
      · simpa using Int.emod_nonneg z (by omega)
    · cases b
      · simpa using hT
      · simpa using Int.emod_lt_of_pos z hT
  by_cases hk : k < ns.length
  · simp only [hk, decide_true, if_true]
    obtain ⟨n, rfl⟩ := Int.eq_ofNat_of_zero_le h0
    have hn : n < ns.length := by omega
    refine .inr (.inr ⟨a, ns, n, ns[n], rfl, ha, rfl, atI_nat (List.getElem?_eq_getElem hn), ?_⟩)
    simp only [Ss.wp, S.wp, E.wp, E.wpT, Es.wp, Es.wpV, Es.wpT, Oe.wpO, Oe.wpT, Wk.wp, wSeq, wRet, wRetN, wNext, wNever, wDrop, wAsg, wIfS, wFor, wPar, wPar3, wFldS, wSetI, wSetK, wDnew, wMeth, wBm, wAndV, wOrV, wNotV, wAnd, wOr, wNot, wTest, wTru, wIf, w1, w2, w3, wVar, wC, wNil, wCons, wTup, wLst, wCall, wCallK, wO0, wO1, wSl, wLc, wISeq, wIR1, wIR2, wIZip, wIStr, wIEn, wDc, DcK.emp, Wk.wp, binF, cmpF, isaD, negD, Blt.spec, Bm.spec, Bm.ty, List.getElem?_cons_zero, List.getElem?_cons_succ, Option.some.injEq, exists_eq_left', exists_eq_left, exists_and_left, List.set_cons_zero, List.set_cons_succ, asn_name, asn_tup, asns_nil, asns_name, wipeD, tru_bl, tru_int, tru_non, tru_tup, bodyEnds, List.map_cons, List.map_nil, ↓reduceIte, Bool.false_eq_true, and_true, true_and, D.str.injEq, D.int.injEq, D.ref.injEq, D.tup.injEq, D.bl.injEq, add_ii, add_ss, add_tt, mul_ii, int_ii, abs_i, int_i, int_b, eq_ii, eq_ss, lt_ii, le_ii, gt_ii, ge_ii, ix_0, ix_1, ix_2, len_tt, tup_n]
    exact go _
  · simp only [hk, decide_false, Bool.false_eq_true, if_false]
    exact go _
end DL

set_option Elab.async false
set_option linter.all false
set_option maxRecDepth 100000
set_option maxHeartbeats 4000000
/-! W9: sorted things rise; names. -/
namespace DL
open PySem L2
/-- unlike things have unlike keys -/
def keyInj (xs : List D) : Prop := ∀ x ∈ xs, ∀ y ∈ xs, PySem.W.keyToks (py x) = PySem.W.keyToks (py y) → x = y
theorem sort_le (xs : List D) : (sortD xs).Pairwise fun x y => ltP y x = false := by
  have h := PySem.W.sort_pairwise (PySem.W.sortLe_total (PyProof.Rows.listOrd PyProof.Rows.itemOrd) false fun b => PySem.W.keyToks (py b)) xs
  refine List.Pairwise.imp (fun {a b} q => ?_) h
  have q : (!ltP b a) = true := q
  rwa [Bool.not_eq_true'] at q
theorem sort_perm (xs : List D) : (sortD xs).Perm xs := List.mergeSort_perm _ _
theorem sort_rise {xs : List D} (hi : keyInj xs) (nd : xs.Nodup) : risB (sortD xs) = true := by
  refine pair_ris ?_
  have h1 := sort_le xs
  have h2 : (sortD xs).Pairwise fun x y => x ≠ y := ((sort_perm xs).nodup_iff).mpr nd
  refine (h1.and h2).imp_of_mem fun {a b} ha hb q => ?_
  cases e : ltP a b with
  | true => rfl
  | false => exact (q.2 (hi a (mem_sort.mp ha) b (mem_sort.mp hb) (PyProof.Rows.lex_total _ _ e q.1))).elim
theorem toks_str (x : Str) : PySem.W.keyToks (py (.str x)) = [.inr x.cps.toList] := by simp only [py, PySem.W.keyToks]
theorem toks_int (i : Int) : PySem.W.keyToks (py (.int i)) = [.inl i] := by simp only [py, PySem.W.keyToks]
theorem toks_tup (ds : List D) : PySem.W.keyToks (py (.tup ds)) = PySem.W.keyToksAll (pys ds) := by simp only [py, PySem.W.keyToks]
theorem str_ext {x y : Str} (h : x.cps.toList = y.cps.toList) : x = y := by
  cases x; cases y
  congr 1
  exact Array.toList_inj.mp h
theorem inj_strs {xs : List D} (h : ∀ x ∈ xs, ∃ s, x = .str s) : keyInj xs := fun x hx y hy e => by
  obtain ⟨s, rfl⟩ := h x hx
  obtain ⟨t, rfl⟩ := h y hy
  rw [toks_str, toks_str] at e
  injection e with e _
  injection e with e
  rw [str_ext e]
theorem toks_ints : ∀ (is js : List Int), PySem.W.keyToksAll (pys (is.map D.int)) = PySem.W.keyToksAll (pys (js.map D.int)) → is = js
  | [], [], _ => rfl
  | [], _ :: _, h => by simp [pys, py, PySem.W.keyToksAll, PySem.W.keyToks] at h
  | _ :: _, [], h => by simp [pys, py, PySem.W.keyToksAll, PySem.W.keyToks] at h
  | i :: is, j :: js, h => by
    simp [pys, py, PySem.W.keyToksAll, PySem.W.keyToks] at h
    rw [h.1, toks_ints is js h.2]
theorem inj_ties {xs : List D} (h : ∀ x ∈ xs, ∃ nm is, x = tie nm is) : keyInj xs := fun x hx y hy e => by
  obtain ⟨s, is, rfl⟩ := h x hx
  obtain ⟨t, js, rfl⟩ := h y hy
  unfold tie at e ⊢
  rw [toks_tup, toks_tup] at e
  simp only [pys, py, PySem.W.keyToksAll, PySem.W.keyToks, List.cons_append, List.nil_append] at e
  injection e with _ e
  injection e with e1 e2
  injection e1 with e1
  rw [str_ext e1, toks_ints is js e2]
/-! ### names -/
structure NamesOk (many : Nat) (ns : List D) : Prop where
  len : ns.length = many
  each : ∀ x ∈ ns, isNm x = true
  rise : risB ns = true
/-- the letters: k-th of them -/
def lett (first leap k : Nat) : Nat := 97 + (first + leap * k) % 26
theorem leap_ne : ∀ leap ∈ [1, 3, 5, 7, 9, 11], ∀ d < 26, leap * d % 26 = 0 → d = 0 := by decide
theorem lett_le {first leap a b : Nat} (hl : leap ∈ [1, 3, 5, 7, 9, 11]) (hab : a ≤ b) (hb : b < 26) (h : lett first leap a = lett first leap b) : a = b := by
  unfold lett at h
  have h' : (first + leap * b) % 26 = (first + leap * a) % 26 := (Nat.add_left_cancel h).symm
  have h2 := Nat.sub_mod_eq_zero_of_mod_eq h'
  have e : first + leap * b - (first + leap * a) = leap * (b - a) := by rw [Nat.add_sub_add_left, ← Nat.mul_sub]
  rw [e] at h2
  have := leap_ne leap hl (b - a) (by omega) h2
  omega
theorem lett_inj {first leap a b : Nat} (hl : leap ∈ [1, 3, 5, 7, 9, 11]) (ha : a < 26) (hb : b < 26) (h : lett first leap a = lett first leap b) : a = b := by
  rcases Nat.le_total a b with q | q
  · exact lett_le hl q hb h
  · exact (lett_le hl q ha h.symm).symm
def nameOf (stem : List Nat) (at_ ch : Nat) : List Nat := stem.take at_ ++ [ch] ++ stem.drop at_
theorem nameOf_inj {stem : List Nat} {at_ a b : Nat} (h : nameOf stem at_ a = nameOf stem at_ b) : a = b := by
  unfold nameOf at h
  have h1 := List.append_cancel_right h
  have h2 := List.append_cancel_left h1
  injection h2
theorem nameOf_ok {stem : List Nat} {at_ ch : Nat} (hs : stem.length ≤ 5) (hl : ∀ c ∈ stem, isLetter c = true) (hc : isLetter ch = true) : nameS (SX.S (nameOf stem at_ ch)) = true := by
  have e : (nameOf stem at_ ch).length = stem.length + 1 := by
    unfold nameOf
    have := congrArg List.length (List.take_append_drop at_ stem)
    rw [List.length_append] at this
    simp only [List.length_append, List.length_cons, List.length_nil]
    omega
  unfold nameS
  rw [SX.S_len, e, Bool.and_eq_true, Bool.and_eq_true]
  refine ⟨⟨decide_eq_true (by omega), decide_eq_true (by omega)⟩, ?_⟩
  show (nameOf stem at_ ch).all isLetter = true
  rw [List.all_eq_true]
  intro c hc'
  unfold nameOf at hc'
  rcases List.mem_append.mp hc' with h | h
  · rcases List.mem_append.mp h with h | h
    · exact hl c (List.mem_of_mem_take h)
    · rw [List.mem_singleton.mp h]; exact hc
  · exact hl c (List.mem_of_mem_drop h)
theorem sort_strs {a : Addr} {xs : List D} {M : Mp} {Q : DQ} (hx : ∀ x ∈ xs, ∃ s, x = .str s) (ha : M a = some (.lst xs)) (h : ∀ p, M p = none → Q (.ref p) (up M p (.lst (sortD xs)))) : sortedS [.ref a] M Q := by
  refine ⟨a, _, rfl, ha, plains_of fun d hd => ?_, fun d hd d' hd' => ?_, .inl (.inr fun d hd => ?_), fun d hd => ?_, h⟩
  · obtain ⟨s, rfl⟩ := hx d hd
    rfl
  · obtain ⟨x, h1, rfl⟩ := List.mem_map.mp hd
    obtain ⟨y, h2, rfl⟩ := List.mem_map.mp hd'
    obtain ⟨s, rfl⟩ := hx x h1
    obtain ⟨s', rfl⟩ := hx y h2
    simp [py, PySem.W.alike]
  · obtain ⟨x, h1, rfl⟩ := List.mem_map.mp hd
    obtain ⟨s, rfl⟩ := hx x h1
    simp [py]
  · obtain ⟨s, rfl⟩ := hx d hd
    simp [py, PyData.depth]
def oneD (ch : Nat) : D := .str ⟨#[ch]⟩
theorem join_ones : ∀ cs : List Nat, TL.joinL [] (cs.map fun ch => [ch]) = cs
  | [] => rfl
  | [_] => rfl
  | x :: y :: r => by
    show [x] ++ ([] ++ TL.joinL [] ((y :: r).map fun ch => [ch])) = _
    rw [join_ones (y :: r)]
    rfl
theorem alpha_at : ∀ n < 26, (Str.ofString "abcdefghijklmnopqrstuvwxyz").cps.toList[n]? = some (97 + n) := by decide +kernel
theorem six_at : ∀ ch ∈ (Str.ofString "abcxyz").cps.toList, isLetter ch = true := by decide +kernel
def S_l_names (_ : Cs) : Spec := fun ds M Q => ∃ (p : Addr) (many : Nat), ds = [.ref p, .int many] ∧ M p = some .pot ∧ many ≤ 26 ∧ ∀ M' q ns, Keep M M' → M q = none → M' q = some (.lst ns) → NamesOk many ns → Q (.ref q) M'
abbrev N_l_names : List Str := ["_law_pot_here", "_law_many", "_law_stem", "_law_letters", "_law_at", "_law_first", "_law_leap", "_law_k", "_law_letter"]
def ir_l_names (c : Cs) : Ss := (.cons (.asg (.name 2) (.bm .join (.str "") (.cons (.lc [("_law_k", 7)] (.name 7) (.r1 (.call "_law_take" (S_l_take c) (.cons (.var 0) (.cons (.int 6) .nil)))) .none (.call "_law_of" (S_l_of c) (.cons (.var 0) (.cons (.bcall .list (.cons (.str "abcxyz") .nil)) .nil)))) .nil))) (.cons (.asg (.tup (.cons (.name 4) (.cons (.name 5) (.cons (.name 6) .nil)))) (.tup (.cons (.call "_law_take" (S_l_take c) (.cons (.var 0) (.cons (.bin .Add (.bcall .len (.cons (.var 2) .nil)) (.int 1)) .nil))) (.cons (.call "_law_take" (S_l_take c) (.cons (.var 0) (.cons (.int 26) .nil))) (.cons (.call "_law_of" (S_l_of c) (.cons (.var 0) (.cons (.lst (.cons (.int 1) (.cons (.int 3) (.cons (.int 5) (.cons (.int 7) (.cons (.int 9) (.cons (.int 11) .nil))))))) .nil))) .nil))))) (.cons (.setLc 3 [("_law_k", 7)] (.name 7) (.r1 (.var 1)) .none (.idx (.str "abcdefghijklmnopqrstuvwxyz") (.bin .Mod (.bin .Add (.var 5) (.bin .Mult (.var 6) (.var 7))) (.int 26)))) (.cons (.ret (.bcall .sorted (.cons (.lc [("_law_letter", 8)] (.name 8) (.seq (.var 3)) .none (.bin .Add (.bin .Add (.slc (.var 2) .none (.some (.var 4))) (.var 8)) (.slc (.var 2) (.some (.var 4)) .none))) .nil))) .nil))))
theorem wp_l_names (c : Cs) {p : Addr} {many : Nat} {M : Mp} {Q : DQ} (hp : M p = some .pot) (hm : many ≤ 26) (h : ∀ M' q ns, Keep M M' → M q = none → M' q = some (.lst ns) → NamesOk many ns → Q (.ref q) M') : (ir_l_names c).wp (bodyEnds Q) [some (.ref p), some (.int many), none, none, none, none, none, none, none] M := by
  simp only [ir_l_names, Ss.wp, S.wp, E.wp, E.wpT, Es.wp, Es.wpV, Es.wpT, Oe.wpO, Oe.wpT, Wk.wp, wSeq, wRet, wRetN, wNext, wNever, wDrop, wAsg, wIfS, wFor, wPar, wPar3, wFldS, wSetI, wSetK, wDnew, wMeth, wBm, wAndV, wOrV, wNotV, wAnd, wOr, wNot, wTest, wTru, wIf, w1, w2, w3, wVar, wC, wNil, wCons, wTup, wLst, wCall, wCallK, wO0, wO1, wSl, wLc, wISeq, wIR1, wIR2, wIZip, wIStr, wIEn, wDc, DcK.emp, Wk.wp, binF, cmpF, isaD, negD, Blt.spec, Bm.spec, Bm.ty, List.getElem?_cons_zero, List.getElem?_cons_succ, Option.some.injEq, exists_eq_left', exists_eq_left, exists_and_left, List.set_cons_zero, List.set_cons_succ, asn_name, asn_tup, asns_nil, asns_name, wipeD, tru_bl, tru_int, tru_non, tru_tup, bodyEnds, List.map_cons, List.map_nil, ↓reduceIte, Bool.false_eq_true, and_true, true_and, D.str.injEq, D.int.injEq, D.ref.injEq, D.tup.injEq, D.bl.injEq, add_ii, add_ss, add_tt, mul_ii, int_ii, abs_i, int_i, int_b, eq_ii, eq_ss, lt_ii, le_ii, gt_ii, ge_ii, ix_0, ix_1, ix_2, len_tt, tup_n]
  refine ⟨rfl, p, 6, rfl, hp, by decide, by decide, fun n n0 n1 => ?_⟩
  refine ⟨n, rfl, by unfold small62; omega, by rw [rng_len, sizeLine_eq]; omega, ?_⟩
  refine lcGo_inv (T := ⟨rngI 0 n, fun _ => True⟩) (fun done acc M2 => Keep M M2 ∧ ∃ cs : List Nat, acc = cs.map oneD ∧ cs.length = done.length ∧ ∀ ch ∈ cs, isLetter ch = true) (fun _ _ _ _ => trivial) _ [] [] M ⟨.refl _, [], rfl, rfl, fun ch hc => by cases hc⟩ (fun x hx done acc M2 k hJ hk => ?_) fun acc M2 hJ q hq => ?_
  · obtain ⟨k2, cs, rfl, hl, hc⟩ := hJ
    refine ⟨_, rfl, yes_if ?_⟩
    simp only [Ss.wp, S.wp, E.wp, E.wpT, Es.wp, Es.wpV, Es.wpT, Oe.wpO, Oe.wpT, Wk.wp, wSeq, wRet, wRetN, wNext, wNever, wDrop, wAsg, wIfS, wFor, wPar, wPar3, wFldS, wSetI, wSetK, wDnew, wMeth, wBm, wAndV, wOrV, wNotV, wAnd, wOr, wNot, wTest, wTru, wIf, w1, w2, w3, wVar, wC, wNil, wCons, wTup, wLst, wCall, wCallK, wO0, wO1, wSl, wLc, wISeq, wIR1, wIR2, wIZip, wIStr, wIEn, wDc, DcK.emp, Wk.wp, binF, cmpF, isaD, negD, Blt.spec, Bm.spec, Bm.ty, List.getElem?_cons_zero, List.getElem?_cons_succ, Option.some.injEq, exists_eq_left', exists_eq_left, exists_and_left, List.set_cons_zero, List.set_cons_succ, asn_name, asn_tup, asns_nil, asns_name, wipeD, tru_bl, tru_int, tru_non, tru_tup, bodyEnds, List.map_cons, List.map_nil, ↓reduceIte, Bool.false_eq_true, and_true, true_and, D.str.injEq, D.int.injEq, D.ref.injEq, D.tup.injEq, D.bl.injEq, add_ii, add_ss, add_tt, mul_ii, int_ii, abs_i, int_i, int_b, eq_ii, eq_ss, lt_ii, le_ii, gt_ii, ge_ii, ix_0, ix_1, ix_2, len_tt, tup_n]
    refine .inr ⟨_, rfl, by decide +kernel, fun l hl2 => ?_⟩
    refine ⟨p, l, _, rfl, Keep.new hl2 _ _ (k2 _ _ hp), up_same, by decide +kernel, by decide +kernel, fun y hy => ?_⟩
    unfold strL at hy
    obtain ⟨ch, hch, rfl⟩ := List.mem_map.mp hy
    refine hk _ _ ⟨k2.trans (.new hl2), cs ++ [ch], ?_, ?_, fun z hz => ?_⟩
    · rw [List.map_append]; rfl
    · rw [List.length_append, List.length_append, hl]; rfl
    · rcases List.mem_append.mp hz with hz | hz
      · exact hc z hz
      · rw [List.mem_singleton.mp hz]; exact six_at ch hch
  · obtain ⟨k2, cs, rfl, hl, hc⟩ := hJ
    rw [List.nil_append, rng_len] at hl
    have zc : cs.length ≤ 5 := by omega
    have k3 : Keep M (up M2 q (.lst (cs.map oneD))) := k2.trans (.new hq)
    have ey : ((cs.map fun ch => [ch]).map SX.S).map D.str = cs.map oneD := by rw [List.map_map, List.map_map]; rfl
    refine ⟨SX.S [], _, (cs.map fun ch => [ch]).map SX.S, by rfl, rfl, .inr ⟨q, rfl, by rw [ey]; exact up_same⟩, ?_, ?_⟩
    · rw [SX.lens, List.map_map, SX.S_len, List.length_map, List.length_map]
      have e2 : (cs.map ((fun x : List Nat => x.length) ∘ fun ch => [ch])) = List.replicate cs.length 1 := by
        rw [List.eq_replicate_iff]
        refine ⟨by simp, fun b hb => ?_⟩
        obtain ⟨ch, _, rfl⟩ := List.mem_map.mp hb
        rfl
      rw [e2, List.sum_replicate_nat, List.length_nil]
      omega
    rw [SX.join_S, join_ones]
    have zS : (SX.S cs).length = cs.length := SX.S_len cs
    refine ⟨_, _, rfl, ⟨by rw [zS, sizeLine_eq]; omega, rfl⟩, ?_⟩
    simp only [Ss.wp, S.wp, E.wp, E.wpT, Es.wp, Es.wpV, Es.wpT, Oe.wpO, Oe.wpT, Wk.wp, wSeq, wRet, wRetN, wNext, wNever, wDrop, wAsg, wIfS, wFor, wPar, wPar3, wFldS, wSetI, wSetK, wDnew, wMeth, wBm, wAndV, wOrV, wNotV, wAnd, wOr, wNot, wTest, wTru, wIf, w1, w2, w3, wVar, wC, wNil, wCons, wTup, wLst, wCall, wCallK, wO0, wO1, wSl, wLc, wISeq, wIR1, wIR2, wIZip, wIStr, wIEn, wDc, DcK.emp, Wk.wp, binF, cmpF, isaD, negD, Blt.spec, Bm.spec, Bm.ty, List.getElem?_cons_zero, List.getElem?_cons_succ, Option.some.injEq, exists_eq_left', exists_eq_left, exists_and_left, List.set_cons_zero, List.set_cons_succ, asn_name, asn_tup, asns_nil, asns_name, wipeD, tru_bl, tru_int, tru_non, tru_tup, bodyEnds, List.map_cons, List.map_nil, ↓reduceIte, Bool.false_eq_true, and_true, true_and, D.str.injEq, D.int.injEq, D.ref.injEq, D.tup.injEq, D.bl.injEq, add_ii, add_ss, add_tt, mul_ii, int_ii, abs_i, int_i, int_b, eq_ii, eq_ss, lt_ii, le_ii, gt_ii, ge_ii, ix_0, ix_1, ix_2, len_tt, tup_n, zS]
    refine ⟨p, _, rfl, k3 _ _ hp, by omega, by omega, fun at_ a0 a1 => ?_⟩
    refine ⟨p, 26, rfl, k3 _ _ hp, by decide, by decide, fun first f0 f1 => ?_⟩
    refine ⟨by simp [sizeLine_eq], fun l hl2 => ?_⟩
    have k4 : Keep M (up (up M2 q (.lst (cs.map oneD))) l (.lst [D.int 1, D.int 3, D.int 5, D.int 7, D.int 9, D.int 11])) := k3.trans (.new hl2)
    refine ⟨p, l, _, rfl, k4 _ _ hp, up_same, by simp, by simp, fun y hy => ?_⟩
    obtain ⟨at_, rfl⟩ := Int.eq_ofNat_of_zero_le a0
    obtain ⟨first, rfl⟩ := Int.eq_ofNat_of_zero_le f0
    obtain ⟨leap, rfl, hleap⟩ : ∃ leap : Nat, y = .int leap ∧ leap ∈ [1, 3, 5, 7, 9, 11] := by
      simp only [List.mem_cons, List.not_mem_nil, or_false] at hy
      rcases hy with rfl | rfl | rfl | rfl | rfl | rfl
      · exact ⟨1, rfl, by decide⟩
      · exact ⟨3, rfl, by decide⟩
      · exact ⟨5, rfl, by decide⟩
      · exact ⟨7, rfl, by decide⟩
      · exact ⟨9, rfl, by decide⟩
      · exact ⟨11, rfl, by decide⟩
    refine ⟨by simp [sizeLine_eq], by unfold small62; omega, by rw [rng_len, sizeLine_eq]; omega, ?_⟩
    generalize up (up M2 q (.lst (cs.map oneD))) l (.lst [D.int 1, D.int 3, D.int 5, D.int 7, D.int 9, D.int 11]) = M4 at k4 ⊢
    have hleap' : leap ≤ 11 := by simp only [List.mem_cons, List.not_mem_nil, or_false] at hleap; omega
    refine lcGo_map (T := ⟨rngI 0 many, fun _ => True⟩) (M0 := M4) (fun x => match x with | .int i => some (oneD (lett first leap i.toNat)) | _ => none) (fun _ _ => trivial) _ M4 (.refl _) (fun x hx acc M5 k k5 hk => ?_) fun M5 k5 r hr => ?_
    · obtain ⟨i, rfl, i0, i1⟩ := rng_mem hx
      obtain ⟨i, rfl⟩ := Int.eq_ofNat_of_zero_le i0
      refine ⟨_, rfl, yes_if ?_⟩
      simp only [Ss.wp, S.wp, E.wp, E.wpT, Es.wp, Es.wpV, Es.wpT, Oe.wpO, Oe.wpT, Wk.wp, wSeq, wRet, wRetN, wNext, wNever, wDrop, wAsg, wIfS, wFor, wPar, wPar3, wFldS, wSetI, wSetK, wDnew, wMeth, wBm, wAndV, wOrV, wNotV, wAnd, wOr, wNot, wTest, wTru, wIf, w1, w2, w3, wVar, wC, wNil, wCons, wTup, wLst, wCall, wCallK, wO0, wO1, wSl, wLc, wISeq, wIR1, wIR2, wIZip, wIStr, wIEn, wDc, DcK.emp, Wk.wp, binF, cmpF, isaD, negD, Blt.spec, Bm.spec, Bm.ty, List.getElem?_cons_zero, List.getElem?_cons_succ, Option.some.injEq, exists_eq_left', exists_eq_left, exists_and_left, List.set_cons_zero, List.set_cons_succ, asn_name, asn_tup, asns_nil, asns_name, wipeD, tru_bl, tru_int, tru_non, tru_tup, bodyEnds, List.map_cons, List.map_nil, ↓reduceIte, Bool.false_eq_true, and_true, true_and, D.str.injEq, D.int.injEq, D.ref.injEq, D.tup.injEq, D.bl.injEq, add_ii, add_ss, add_tt, mul_ii, int_ii, abs_i, int_i, int_b, eq_ii, eq_ss, lt_ii, le_ii, gt_ii, ge_ii, ix_0, ix_1, ix_2, len_tt, tup_n]
      refine ⟨.inl ⟨by omega, by omega⟩, by decide, .inr (.inl ⟨_, _, lett first leap i, rfl, rfl, by decide +kernel, ?_, hk M5 k5⟩)⟩
      have e : ((first : Int) + (leap : Int) * (i : Int)) % 26 = (((first + leap * i) % 26 : Nat) : Int) := by
        rw [Int.natCast_emod, Int.natCast_add, Int.natCast_mul]; rfl
      rw [e]
      exact atI_nat (alpha_at _ (Nat.mod_lt _ (by decide)))
    · generalize eL : (rngI 0 (many : Int)).filterMap _ = ls
      have eL' : ls = (List.range many).map fun i => oneD (lett first leap i) := by
        rw [← eL]
        unfold rngI
        rw [Int.sub_zero, Int.toNat_natCast, List.filterMap_map, ← List.filterMap_eq_map']
        congr 1
        funext a
        simp
      have zl : ls.length ≤ 26 := by rw [eL', List.length_map, List.length_range]; exact hm
      clear eL
      refine ⟨_, seqT_l up_same, by show ls.length ≤ sizeLine; rw [sizeLine_eq]; omega, ?_⟩
      have k6 : Keep M4 (up M5 r (.lst ls)) := k5.trans (.new hr)
      refine lcGo_map (T := ⟨ls, fun M => M r = some (.lst ls)⟩) (M0 := up M5 r (.lst ls)) (fun x => match x with | .str z => some (.str (SX.S (nameOf cs at_ (z.cps.toList.headD 0)))) | _ => none) (fun M6 k6 => k6 _ _ up_same) ls _ (.refl _) (fun x hx acc M6 k k7 hk => ?_) fun M6 k7 s hs => ?_
      · rw [eL'] at hx
        obtain ⟨i, hi, rfl⟩ := List.mem_map.mp hx
        refine ⟨_, rfl, yes_if ?_⟩
        simp only [Ss.wp, S.wp, E.wp, E.wpT, Es.wp, Es.wpV, Es.wpT, Oe.wpO, Oe.wpT, Wk.wp, wSeq, wRet, wRetN, wNext, wNever, wDrop, wAsg, wIfS, wFor, wPar, wPar3, wFldS, wSetI, wSetK, wDnew, wMeth, wBm, wAndV, wOrV, wNotV, wAnd, wOr, wNot, wTest, wTru, wIf, w1, w2, w3, wVar, wC, wNil, wCons, wTup, wLst, wCall, wCallK, wO0, wO1, wSl, wLc, wISeq, wIR1, wIR2, wIZip, wIStr, wIEn, wDc, DcK.emp, Wk.wp, binF, cmpF, isaD, negD, Blt.spec, Bm.spec, Bm.ty, List.getElem?_cons_zero, List.getElem?_cons_succ, Option.some.injEq, exists_eq_left', exists_eq_left, exists_and_left, List.set_cons_zero, List.set_cons_succ, asn_name, asn_tup, asns_nil, asns_name, wipeD, tru_bl, tru_int, tru_non, tru_tup, bodyEnds, List.map_cons, List.map_nil, ↓reduceIte, Bool.false_eq_true, and_true, true_and, D.str.injEq, D.int.injEq, D.ref.injEq, D.tup.injEq, D.bl.injEq, add_ii, add_ss, add_tt, mul_ii, int_ii, abs_i, int_i, int_b, eq_ii, eq_ss, lt_ii, le_ii, gt_ii, ge_ii, ix_0, ix_1, ix_2, len_tt, tup_n, slD]
        refine ⟨by rw [zS, sizeLine_eq]; omega, ?_⟩
        rw [C8.cutS_slice, SX.slice_to (by omega), C8.cutS_slice, SX.slice_from (by omega), Int.toNat_natCast]
        have hk' := hk M6 k7
        have e1 : (SX.S (cs.take at_)).length ≤ 5 := by rw [SX.S_len, List.length_take]; omega
        have e2 : (SX.S (cs.drop at_)).length ≤ 5 := by rw [SX.S_len, List.length_drop]; omega
        have e3 : SX.S (cs.take at_) ++ (⟨#[lett first leap i]⟩ : Str) = SX.S (cs.take at_ ++ [lett first leap i]) := SX.S_cat _ [lett first leap i]
        refine ⟨by show _ + 1 ≤ sizeLine; rw [sizeLine_eq]; omega, by rw [zS, sizeLine_eq]; omega, ?_, ?_⟩
        · rw [e3, SX.S_len, List.length_append, List.length_take, sizeLine_eq]
          simp only [List.length_cons, List.length_nil]
          omega
        · rw [e3, SX.S_cat]
          exact hk'
      · generalize eN : ls.filterMap _ = ns0
        have eN' : ns0 = (List.range many).map fun i => D.str (SX.S (nameOf cs at_ (lett first leap i))) := by
          rw [← eN, eL', List.filterMap_map, ← List.filterMap_eq_map']
          congr 1
        clear eN
        have hstr : ∀ x ∈ ns0, ∃ i, i < many ∧ x = .str (SX.S (nameOf cs at_ (lett first leap i))) := fun x hx => by
          rw [eN'] at hx
          obtain ⟨i, hi, rfl⟩ := List.mem_map.mp hx
          exact ⟨i, List.mem_range.mp hi, rfl⟩
        refine sort_strs (xs := ns0) (fun x hx => let ⟨i, _, e⟩ := hstr x hx; ⟨_, e⟩) up_same fun t ht => ?_
        have k8 : Keep M (up (up M6 s (.lst ns0)) t (.lst (sortD ns0))) := k4.trans (k6.trans (k7.trans ((Keep.new hs).trans (.new ht))))
        have kt : Keep M (up M6 s (.lst ns0)) := k4.trans (k6.trans (k7.trans (Keep.new hs)))
        refine h _ t (sortD ns0) k8 (kt.none ht) up_same ⟨?_, fun x hx => ?_, sort_rise (inj_strs fun x hx => let ⟨i, _, e⟩ := hstr x hx; ⟨_, e⟩) ?_⟩
        · rw [len_sort, eN', List.length_map, List.length_range]
        · obtain ⟨i, hi, rfl⟩ := hstr x (mem_sort.mp hx)
          refine nameOf_ok zc hc ?_
          unfold lett isLetter
          have := Nat.mod_lt (first + leap * i) (show 26 > 0 by decide)
          rw [Bool.and_eq_true]
          exact ⟨decide_eq_true (by omega), decide_eq_true (by omega)⟩
        · rw [eN']
          refine nodup_on List.nodup_range fun a ha b hb e => ?_
          rw [List.mem_range] at ha hb
          injection e with e
          exact lett_inj hleap (by omega) (by omega) (nameOf_inj (SX.S_inj e))
end DL

set_option Elab.async false
set_option linter.all false
set_option maxRecDepth 100000
set_option maxHeartbeats 4000000
/-! W10: the law's house. -/
namespace DL
open PySem L2
theorem cut_take {α : Type} {xs : List α} {n : Nat} (h : n ≤ xs.length) : cutL xs none (some (n : Int)) = xs.take n := by
  unfold cutL
  rw [HT.sIx_nat, HT.sIx_none, Nat.min_eq_left h, Nat.sub_zero, List.drop_zero]
theorem cut_mid {α : Type} {xs : List α} {a b : Nat} (hab : a ≤ b) (h : b ≤ xs.length) : cutL xs (some (a : Int)) (some (b : Int)) = (xs.drop a).take (b - a) := by
  unfold cutL
  rw [HT.sIx_nat, HT.sIx_nat, Nat.min_eq_left h, Nat.min_eq_left (Nat.le_trans hab h)]
theorem ris_sub {xs ys : List D} (h : risB ys = true) (s : xs.Sublist ys) : risB xs = true := pair_ris ((ris_pair h).sublist s)
theorem nm_str {x : D} (h : isNm x = true) : ∃ nm, x = .str nm ∧ nameS nm = true := by
  cases x <;> first | exact ⟨_, rfl, h⟩ | cases h
theorem rules_of {s : Nat} {ns acc : List D} (hn : ∀ x ∈ ns, isNm x = true) (hr : risB ns = true) (hl : ns.length ≤ 3) (em : acc.map nameD = ns) (ha : ∀ d ∈ acc, ∃ x prs, d = .tup [x, .tup prs] ∧ PrsOk s prs) : RulesOk s acc := by
  refine ⟨?_, fun d hd => ?_, by rw [em]; exact hr⟩
  · have := congrArg List.length em
    rw [List.length_map] at this
    omega
  · obtain ⟨x, prs, rfl, ok⟩ := ha d hd
    obtain ⟨nm, e, h⟩ := nm_str (hn x (by rw [← em]; exact List.mem_map.mpr ⟨_, hd, rfl⟩))
    subst e
    exact ⟨nm, prs, rfl, h, ok.each, ok.rise⟩
structure MarksOk (s : Nat) (ms : List D) : Prop where
  each : ∀ x ∈ ms, isWh x 0 ((s : Int) - 1) = true
  rise : risB ms = true
theorem lt_int (i j : Int) : ltP (.int i) (.int j) = decide (i < j) := by
  unfold ltP
  simp only [py]
  exact PySem.W.dataLt_int i j
theorem rng_rise (n : Int) : risB (rngI 0 n) = true := pair_ris ((rng_pair n).imp fun {a b} h => by
  obtain ⟨i, j, rfl, rfl, h⟩ := h
  rw [lt_int, decide_eq_true_eq]
  exact h)
theorem MarksOk.sub {s : Nat} {ms : List D} (h : ms.Sublist (rngI 0 s)) : MarksOk s ms := by
  refine ⟨fun x hx => ?_, ris_sub (rng_rise _) h⟩
  obtain ⟨i, rfl, i0, i1⟩ := rng_mem (h.subset hx)
  exact wh_of i0 i1
theorem lists_of {s : Nat} {ns acc : List D} (hn : ∀ x ∈ ns, isNm x = true) (hr : risB ns = true) (hl : ns.length ≤ 6) (em : acc.map nameD = ns) (ha : ∀ d ∈ acc, ∃ x ms, d = .tup [x, .tup ms] ∧ MarksOk s ms) : ListsOk s acc := by
  refine ⟨?_, fun d hd => ?_, by rw [em]; exact hr⟩
  · have := congrArg List.length em
    rw [List.length_map] at this
    omega
  · obtain ⟨x, prs, rfl, ok⟩ := ha d hd
    obtain ⟨nm, e, h⟩ := nm_str (hn x (by rw [← em]; exact List.mem_map.mpr ⟨_, hd, rfl⟩))
    subst e
    exact ⟨nm, prs, rfl, h, ok.each, ok.rise⟩
theorem len_em {acc ns : List D} (em : acc.map nameD = ns) : acc.length = ns.length := by rw [← em, List.length_map]
def S_l_home (_ : Cs) : Spec := fun ds M Q => ∃ (p : Addr) (most : Nat), ds = [.ref p, .int most] ∧ M p = some .pot ∧ 1 ≤ most ∧ most ≤ 4 ∧ ∀ M' (s : Nat) rs ls, Keep M M' → 1 ≤ s → s ≤ most → RulesOk s rs → ListsOk s ls → 1 ≤ rs.length → ls.length ≤ 4 → Q (.tup [.int s, .tup rs, .tup ls]) M'
abbrev N_l_home : List Str := ["_law_pot_here", "_law_most", "_law_laid", "_law_kept", "_law_name", "_law_size", "_law_names_here", "_law_mark"]
def ir_l_home (c : Cs) : Ss := (.cons (.asg (.tup (.cons (.name 5) (.cons (.name 6) .nil))) (.tup (.cons (.bin .Add (.int 1) (.call "_law_take" (S_l_take c) (.cons (.var 0) (.cons (.var 1) .nil)))) (.cons (.call "_law_names" (S_l_names c) (.cons (.var 0) (.cons (.int 8) .nil))) .nil)))) (.cons (.asg (.name 2) (.bcall .tuple (.cons (.lc [("_law_name", 4)] (.name 4) (.seq (.slc (.var 6) .none (.some (.bin .Add (.int 1) (.call "_law_take" (S_l_take c) (.cons (.var 0) (.cons (.int 3) .nil))))))) .none (.tup (.cons (.var 4) (.cons (.call "_law_pairs" (S_l_pairs c) (.cons (.var 0) (.cons (.var 5) .nil))) .nil)))) .nil))) (.cons (.ife (.cmp .Eq (.call "_law_take" (S_l_take c) (.cons (.var 0) (.cons (.int 3) .nil))) (.int 0)) (.cons (.ret (.tup (.cons (.var 5) (.cons (.var 2) (.cons (.bcall .tuple (.cons (.lc [("_law_mark", 7)] (.name 7) (.r1 (.var 5)) .none (.tup (.cons (.idx (.var 6) (.bin .Add (.int 3) (.var 7))) (.cons (.tup (.cons (.var 7) .nil)) .nil)))) .nil)) .nil))))) .nil) .nil) (.cons (.asg (.name 3) (.lst .nil)) (.cons (.for_ (.name 4) (.seq (.slc (.var 6) (.some (.int 3)) (.some (.bin .Add (.int 3) (.call "_law_take" (S_l_take c) (.cons (.var 0) (.cons (.int 3) .nil))))))) (.cons (.expr (.bm .append (.var 3) (.cons (.tup (.cons (.var 4) (.cons (.bcall .tuple (.cons (.lc [("_law_mark", 7)] (.name 7) (.r1 (.var 5)) (.some (.cmp .Gt (.call "_law_take" (S_l_take c) (.cons (.var 0) (.cons (.int 3) .nil))) (.int 0))) (.var 7)) .nil)) .nil))) .nil))) .nil)) (.cons (.ret (.tup (.cons (.var 5) (.cons (.var 2) (.cons (.bcall .tuple (.cons (.var 3) .nil)) .nil))))) .nil))))))
theorem wp_l_home (c : Cs) {p : Addr} {most : Nat} {M : Mp} {Q : DQ} (hp : M p = some .pot) (h1 : 1 ≤ most) (h4 : most ≤ 4) (h : ∀ M' (s : Nat) rs ls, Keep M M' → 1 ≤ s → s ≤ most → RulesOk s rs → ListsOk s ls → 1 ≤ rs.length → ls.length ≤ 4 → Q (.tup [.int s, .tup rs, .tup ls]) M') :
    (ir_l_home c).wp (bodyEnds Q) [some (.ref p), some (.int most), none, none, none, none, none, none] M := by
  simp only [ir_l_home, Ss.wp, S.wp, E.wp, E.wpT, Es.wp, Es.wpV, Es.wpT, Oe.wpO, Oe.wpT, Wk.wp, wSeq, wRet, wRetN, wNext, wNever, wDrop, wAsg, wIfS, wFor, wPar, wPar3, wFldS, wSetI, wSetK, wDnew, wMeth, wBm, wAndV, wOrV, wNotV, wAnd, wOr, wNot, wTest, wTru, wIf, w1, w2, w3, wVar, wC, wNil, wCons, wTup, wLst, wCall, wCallK, wO0, wO1, wSl, wLc, wISeq, wIR1, wIR2, wIZip, wIStr, wIEn, wDc, DcK.emp, Wk.wp, binF, cmpF, isaD, negD, Blt.spec, Bm.spec, Bm.ty, List.getElem?_cons_zero, List.getElem?_cons_succ, Option.some.injEq, exists_eq_left', exists_eq_left, exists_and_left, List.set_cons_zero, List.set_cons_succ, asn_name, asn_tup, asns_nil, asns_name, wipeD, tru_bl, tru_int, tru_non, tru_tup, bodyEnds, List.map_cons, List.map_nil, ↓reduceIte, Bool.false_eq_true, and_true, true_and, D.str.injEq, D.int.injEq, D.ref.injEq, D.tup.injEq, D.bl.injEq, add_ii, add_ss, add_tt, mul_ii, int_ii, abs_i, int_i, int_b, eq_ii, eq_ss, lt_ii, le_ii, gt_ii, ge_ii, ix_0, ix_1, ix_2, len_tt, tup_n]
  refine ⟨p, most, rfl, hp, by omega, by omega, fun r r0 r1 => ?_⟩
  simp only [Ss.wp, S.wp, E.wp, E.wpT, Es.wp, Es.wpV, Es.wpT, Oe.wpO, Oe.wpT, Wk.wp, wSeq, wRet, wRetN, wNext, wNever, wDrop, wAsg, wIfS, wFor, wPar, wPar3, wFldS, wSetI, wSetK, wDnew, wMeth, wBm, wAndV, wOrV, wNotV, wAnd, wOr, wNot, wTest, wTru, wIf, w1, w2, w3, wVar, wC, wNil, wCons, wTup, wLst, wCall, wCallK, wO0, wO1, wSl, wLc, wISeq, wIR1, wIR2, wIZip, wIStr, wIEn, wDc, DcK.emp, Wk.wp, binF, cmpF, isaD, negD, Blt.spec, Bm.spec, Bm.ty, List.getElem?_cons_zero, List.getElem?_cons_succ, Option.some.injEq, exists_eq_left', exists_eq_left, exists_and_left, List.set_cons_zero, List.set_cons_succ, asn_name, asn_tup, asns_nil, asns_name, wipeD, tru_bl, tru_int, tru_non, tru_tup, bodyEnds, List.map_cons, List.map_nil, ↓reduceIte, Bool.false_eq_true, and_true, true_and, D.str.injEq, D.int.injEq, D.ref.injEq, D.tup.injEq, D.bl.injEq, add_ii, add_ss, add_tt, mul_ii, int_ii, abs_i, int_i, int_b, eq_ii, eq_ss, lt_ii, le_ii, gt_ii, ge_ii, ix_0, ix_1, ix_2, len_tt, tup_n]
  refine ⟨p, 8, rfl, hp, by decide, fun M1 nq ns k1 hnq hns okn => ?_⟩
  obtain ⟨r, rfl⟩ := Int.eq_ofNat_of_zero_le r0
  obtain ⟨s, hs⟩ : ∃ s : Nat, s = 1 + r := ⟨_, rfl⟩
  have es : (1 : Int) + (r : Int) = (s : Int) := by omega
  simp only [es]
  refine ⟨by simp [sizeLine_eq], p, 3, rfl, k1 _ _ hp, by decide, by decide, fun r2 s0 s1 => ?_⟩
  simp only [Ss.wp, S.wp, E.wp, E.wpT, Es.wp, Es.wpV, Es.wpT, Oe.wpO, Oe.wpT, Wk.wp, wSeq, wRet, wRetN, wNext, wNever, wDrop, wAsg, wIfS, wFor, wPar, wPar3, wFldS, wSetI, wSetK, wDnew, wMeth, wBm, wAndV, wOrV, wNotV, wAnd, wOr, wNot, wTest, wTru, wIf, w1, w2, w3, wVar, wC, wNil, wCons, wTup, wLst, wCall, wCallK, wO0, wO1, wSl, wLc, wISeq, wIR1, wIR2, wIZip, wIStr, wIEn, wDc, DcK.emp, Wk.wp, binF, cmpF, isaD, negD, Blt.spec, Bm.spec, Bm.ty, List.getElem?_cons_zero, List.getElem?_cons_succ, Option.some.injEq, exists_eq_left', exists_eq_left, exists_and_left, List.set_cons_zero, List.set_cons_succ, asn_name, asn_tup, asns_nil, asns_name, wipeD, tru_bl, tru_int, tru_non, tru_tup, bodyEnds, List.map_cons, List.map_nil, ↓reduceIte, Bool.false_eq_true, and_true, true_and, D.str.injEq, D.int.injEq, D.ref.injEq, D.tup.injEq, D.bl.injEq, add_ii, add_ss, add_tt, mul_ii, int_ii, abs_i, int_i, int_b, eq_ii, eq_ss, lt_ii, le_ii, gt_ii, ge_ii, ix_0, ix_1, ix_2, len_tt, tup_n]
  obtain ⟨r2, rfl⟩ := Int.eq_ofNat_of_zero_le s0
  have e2 : (1 : Int) + (r2 : Int) = ((1 + r2 : Nat) : Int) := by omega
  have hl8 : ns.length = 8 := okn.len
  refine slD_l (ds' := ns.take (1 + r2)) (by rw [e2]; exact cut_take (by omega)) hns fun l hl => ?_
  have k2 : Keep M (up M1 l (.lst (ns.take (1 + r2)))) := k1.trans (.new hl)
  have hns2 : up M1 l (.lst (ns.take (1 + r2))) nq = some (.lst ns) := Keep.new hl _ _ hns
  have zt : (ns.take (1 + r2)).length = 1 + r2 := by rw [List.length_take]; omega
  refine ⟨_, seqT_l up_same, by show (ns.take (1 + r2)).length ≤ sizeLine; rw [zt, sizeLine_eq]; omega, ?_⟩
  refine lcGo_inv (T := ⟨ns.take (1 + r2), fun M => M l = some (.lst (ns.take (1 + r2)))⟩) (fun done acc M2 => Keep (up M1 l (.lst (ns.take (1 + r2)))) M2 ∧ acc.map nameD = done ∧ ∀ d ∈ acc, ∃ x prs, d = .tup [x, .tup prs] ∧ PrsOk s prs) (fun _ _ _ hJ => hJ.1 _ _ up_same) _ [] [] _ ⟨.refl _, rfl, fun d hd => by cases hd⟩ (fun x hx done acc M2 k hJ hk => ?_) fun acc M2 hJ q hq => ?_
  · obtain ⟨k3, em, ha⟩ := hJ
    refine ⟨_, rfl, yes_if ?_⟩
    simp only [Ss.wp, S.wp, E.wp, E.wpT, Es.wp, Es.wpV, Es.wpT, Oe.wpO, Oe.wpT, Wk.wp, wSeq, wRet, wRetN, wNext, wNever, wDrop, wAsg, wIfS, wFor, wPar, wPar3, wFldS, wSetI, wSetK, wDnew, wMeth, wBm, wAndV, wOrV, wNotV, wAnd, wOr, wNot, wTest, wTru, wIf, w1, w2, w3, wVar, wC, wNil, wCons, wTup, wLst, wCall, wCallK, wO0, wO1, wSl, wLc, wISeq, wIR1, wIR2, wIZip, wIStr, wIEn, wDc, DcK.emp, Wk.wp, binF, cmpF, isaD, negD, Blt.spec, Bm.spec, Bm.ty, List.getElem?_cons_zero, List.getElem?_cons_succ, Option.some.injEq, exists_eq_left', exists_eq_left, exists_and_left, List.set_cons_zero, List.set_cons_succ, asn_name, asn_tup, asns_nil, asns_name, wipeD, tru_bl, tru_int, tru_non, tru_tup, bodyEnds, List.map_cons, List.map_nil, ↓reduceIte, Bool.false_eq_true, and_true, true_and, D.str.injEq, D.int.injEq, D.ref.injEq, D.tup.injEq, D.bl.injEq, add_ii, add_ss, add_tt, mul_ii, int_ii, abs_i, int_i, int_b, eq_ii, eq_ss, lt_ii, le_ii, gt_ii, ge_ii, ix_0, ix_1, ix_2, len_tt, tup_n]
    refine ⟨p, s, rfl, k3 _ _ (k2 _ _ hp), by omega, by omega, fun M3 prs k4 ok => ?_⟩
    refine ⟨by simp [sizeLine_eq], hk _ _ ⟨k3.trans k4, ?_, fun d hd => ?_⟩⟩
    · rw [List.map_append, em]; rfl
    · rcases List.mem_append.mp hd with hd | hd
      · exact ha d hd
      · obtain rfl := List.mem_singleton.mp hd
        exact ⟨x, prs, rfl, ok⟩
  obtain ⟨k3, em, ha⟩ := hJ
  rw [List.nil_append] at em
  have okr : RulesOk s acc := rules_of (fun x hx => okn.each x (List.mem_of_mem_take hx)) (ris_sub okn.rise (List.take_sublist _ _)) (by omega) em ha
  have lacc : 1 ≤ acc.length := by rw [len_em em, zt]; omega
  have k4 : Keep M (up M2 q (.lst acc)) := k2.trans (k3.trans (.new hq))
  have hns4 : up M2 q (.lst acc) nq = some (.lst ns) := Keep.new hq _ _ (k3 _ _ hns2)
  generalize up M2 q (.lst acc) = M4 at k4 hns4 ⊢
  clear k3 ha em hq k2 hns2 hl hns k1
  refine ⟨p, 3, rfl, k4 _ _ hp, by decide, by decide, fun r3 t0 t1 => ?_⟩
  simp only [Ss.wp, S.wp, E.wp, E.wpT, Es.wp, Es.wpV, Es.wpT, Oe.wpO, Oe.wpT, Wk.wp, wSeq, wRet, wRetN, wNext, wNever, wDrop, wAsg, wIfS, wFor, wPar, wPar3, wFldS, wSetI, wSetK, wDnew, wMeth, wBm, wAndV, wOrV, wNotV, wAnd, wOr, wNot, wTest, wTru, wIf, w1, w2, w3, wVar, wC, wNil, wCons, wTup, wLst, wCall, wCallK, wO0, wO1, wSl, wLc, wISeq, wIR1, wIR2, wIZip, wIStr, wIEn, wDc, DcK.emp, Wk.wp, binF, cmpF, isaD, negD, Blt.spec, Bm.spec, Bm.ty, List.getElem?_cons_zero, List.getElem?_cons_succ, Option.some.injEq, exists_eq_left', exists_eq_left, exists_and_left, List.set_cons_zero, List.set_cons_succ, asn_name, asn_tup, asns_nil, asns_name, wipeD, tru_bl, tru_int, tru_non, tru_tup, bodyEnds, List.map_cons, List.map_nil, ↓reduceIte, Bool.false_eq_true, and_true, true_and, D.str.injEq, D.int.injEq, D.ref.injEq, D.tup.injEq, D.bl.injEq, add_ii, add_ss, add_tt, mul_ii, int_ii, abs_i, int_i, int_b, eq_ii, eq_ss, lt_ii, le_ii, gt_ii, ge_ii, ix_0, ix_1, ix_2, len_tt, tup_n]
  by_cases hr3 : r3 = 0
  · simp only [hr3, decide_true, if_true]
    refine ⟨by unfold small62; omega, by rw [rng_len, sizeLine_eq]; omega, ?_⟩
    refine lcGo_map (T := ⟨rngI 0 s, fun _ => True⟩) (M0 := M4) (fun x => match x with | .int i => some (.tup [ns.getD (3 + i.toNat) .non, .tup [.int i]]) | _ => none) (fun _ _ => trivial) _ M4 (.refl _) (fun x hx acc2 M5 k k5 hk => ?_) fun M5 k5 w hw => ?_
    · obtain ⟨i, rfl, i0, i1⟩ := rng_mem hx
      obtain ⟨i, rfl⟩ := Int.eq_ofNat_of_zero_le i0
      refine ⟨_, rfl, yes_if ?_⟩
      simp only [Ss.wp, S.wp, E.wp, E.wpT, Es.wp, Es.wpV, Es.wpT, Oe.wpO, Oe.wpT, Wk.wp, wSeq, wRet, wRetN, wNext, wNever, wDrop, wAsg, wIfS, wFor, wPar, wPar3, wFldS, wSetI, wSetK, wDnew, wMeth, wBm, wAndV, wOrV, wNotV, wAnd, wOr, wNot, wTest, wTru, wIf, w1, w2, w3, wVar, wC, wNil, wCons, wTup, wLst, wCall, wCallK, wO0, wO1, wSl, wLc, wISeq, wIR1, wIR2, wIZip, wIStr, wIEn, wDc, DcK.emp, Wk.wp, binF, cmpF, isaD, negD, Blt.spec, Bm.spec, Bm.ty, List.getElem?_cons_zero, List.getElem?_cons_succ, Option.some.injEq, exists_eq_left', exists_eq_left, exists_and_left, List.set_cons_zero, List.set_cons_succ, asn_name, asn_tup, asns_nil, asns_name, wipeD, tru_bl, tru_int, tru_non, tru_tup, bodyEnds, List.map_cons, List.map_nil, ↓reduceIte, Bool.false_eq_true, and_true, true_and, D.str.injEq, D.int.injEq, D.ref.injEq, D.tup.injEq, D.bl.injEq, add_ii, add_ss, add_tt, mul_ii, int_ii, abs_i, int_i, int_b, eq_ii, eq_ss, lt_ii, le_ii, gt_ii, ge_ii, ix_0, ix_1, ix_2, len_tt, tup_n]
      have e3 : (3 : Int) + (i : Int) = ((3 + i : Nat) : Int) := by omega
      rw [e3]
      have hi : 3 + i < ns.length := by omega
      refine ix_l (3 + i) (k5 _ _ hns4) (List.getElem?_eq_getElem hi) ?_
      refine ⟨by simp [sizeLine_eq], by simp [sizeLine_eq], ?_⟩
      have := hk M5 k5
      simpa [List.getD, List.getElem?_eq_getElem hi] using this
    · refine ⟨by simp [sizeLine_eq], ?_⟩
      generalize eL : (rngI 0 (s : Int)).filterMap _ = ls
      have eL' : ls = (List.range s).map fun i => D.tup [ns.getD (3 + i) .non, .tup [.int (i : Nat)]] := by
        rw [← eL]
        unfold rngI
        rw [Int.sub_zero, Int.toNat_natCast, List.filterMap_map, ← List.filterMap_eq_map']
        congr 1
        funext a
        simp
      have en : ls.map nameD = (List.range s).map fun i => ns.getD (3 + i) .non := by rw [eL', List.map_map]; rfl
      clear eL
      have zl : ls.length = s := by rw [eL', List.length_map, List.length_range]
      refine h _ s acc ls (k4.trans (k5.trans (.new hw))) (by omega) (by omega) okr (lists_of (ns := ls.map nameD) (fun x hx => ?_) ?_ (by rw [List.length_map]; omega) rfl fun d hd => ?_) lacc (by omega)
      · rw [en] at hx
        obtain ⟨i, hi, rfl⟩ := List.mem_map.mp hx
        rw [List.mem_range] at hi
        have hi : 3 + i < ns.length := by omega
        have : ns.getD (3 + i) .non = ns[3 + i] := by simp [List.getD, List.getElem?_eq_getElem hi]
        rw [this]
        exact okn.each _ (List.getElem_mem hi)
      · refine pair_ris ?_
        rw [en, List.pairwise_map]
        refine List.Pairwise.imp_of_mem (fun {a b} ha hb hab => ?_) (List.pairwise_lt_range (n := s))
        rw [List.mem_range] at ha hb
        have ha' : 3 + a < ns.length := by omega
        have hb' : 3 + b < ns.length := by omega
        have e1 : ns.getD (3 + a) .non = ns[3 + a] := by simp [List.getD, List.getElem?_eq_getElem ha']
        have e2 : ns.getD (3 + b) .non = ns[3 + b] := by simp [List.getD, List.getElem?_eq_getElem hb']
        rw [e1, e2]
        exact List.pairwise_iff_getElem.mp (ris_pair okn.rise) _ _ ha' hb' (by omega)
      · rw [eL'] at hd
        obtain ⟨i, hi, rfl⟩ := List.mem_map.mp hd
        rw [List.mem_range] at hi
        exact ⟨_, _, rfl, fun x hx => by rw [List.mem_singleton.mp hx]; exact wh_of (by omega) (by omega), rfl⟩
  · simp only [hr3, decide_false, Bool.false_eq_true, if_false]
    refine ⟨by simp [sizeLine_eq], fun kp hkp => ?_⟩
    have k5 : Keep M4 (up M4 kp (.lst [])) := .new hkp
    refine ⟨p, 3, rfl, k5 _ _ (k4 _ _ hp), by decide, by decide, fun r4 u0 u1 => ?_⟩
    simp only [Ss.wp, S.wp, E.wp, E.wpT, Es.wp, Es.wpV, Es.wpT, Oe.wpO, Oe.wpT, Wk.wp, wSeq, wRet, wRetN, wNext, wNever, wDrop, wAsg, wIfS, wFor, wPar, wPar3, wFldS, wSetI, wSetK, wDnew, wMeth, wBm, wAndV, wOrV, wNotV, wAnd, wOr, wNot, wTest, wTru, wIf, w1, w2, w3, wVar, wC, wNil, wCons, wTup, wLst, wCall, wCallK, wO0, wO1, wSl, wLc, wISeq, wIR1, wIR2, wIZip, wIStr, wIEn, wDc, DcK.emp, Wk.wp, binF, cmpF, isaD, negD, Blt.spec, Bm.spec, Bm.ty, List.getElem?_cons_zero, List.getElem?_cons_succ, Option.some.injEq, exists_eq_left', exists_eq_left, exists_and_left, List.set_cons_zero, List.set_cons_succ, asn_name, asn_tup, asns_nil, asns_name, wipeD, tru_bl, tru_int, tru_non, tru_tup, bodyEnds, List.map_cons, List.map_nil, ↓reduceIte, Bool.false_eq_true, and_true, true_and, D.str.injEq, D.int.injEq, D.ref.injEq, D.tup.injEq, D.bl.injEq, add_ii, add_ss, add_tt, mul_ii, int_ii, abs_i, int_i, int_b, eq_ii, eq_ss, lt_ii, le_ii, gt_ii, ge_ii, ix_0, ix_1, ix_2, len_tt, tup_n]
    obtain ⟨r4, rfl⟩ := Int.eq_ofNat_of_zero_le u0
    have e3 : (3 : Int) + (r4 : Int) = ((3 + r4 : Nat) : Int) := by omega
    refine slD_l (ds' := (ns.drop 3).take r4) (by rw [e3]; exact (cut_mid (a := 3) (b := 3 + r4) (by omega) (by omega)).trans (by rw [Nat.add_sub_cancel_left])) (k5 _ _ hns4) fun l hl => ?_
    refine ⟨_, seqT_l up_same, ?_⟩
    have k6 : Keep M4 (up (up M4 kp (.lst [])) l (.lst ((ns.drop 3).take r4))) := k5.trans (.new hl)
    have nlk : kp ≠ l := fun e => by subst e; rw [up_same] at hl; cases hl
    have hsub : ((ns.drop 3).take r4).Sublist ns := (List.take_sublist _ _).trans (List.drop_sublist _ _)
    have zt2 : ((ns.drop 3).take r4).length ≤ 2 := by rw [List.length_take]; omega
    generalize hsl : (ns.drop 3).take r4 = sl at *
    refine forGo_pos (T := ⟨sl, fun M => M l = some (.lst sl)⟩) (fun done ρ M5 => Keep M4 M5 ∧ M5 l = some (.lst sl) ∧ (∃ acc2, M5 kp = some (.lst acc2) ∧ acc2.map nameD = done ∧ ∀ d ∈ acc2, ∃ x ms, d = .tup [x, .tup ms] ∧ MarksOk s ms) ∧ ∃ v, ρ = [some (.ref p), some (.int most), some (.tup acc), some (.ref kp), v, some (.int s), some (.ref nq), none]) (fun _ _ _ hJ => hJ.2.1) sl [] _ _ ⟨k6, up_same, ⟨[], by rw [up_ne nlk]; exact up_same, rfl, fun d hd => by cases hd⟩, _, rfl⟩ (fun x pre post e ρ M5 k hJ hk => ?_) fun ρ M5 hJ => ?_
    · obtain ⟨k7, hl7, ⟨acc2, hk7, em2, ha2⟩, v, rfl⟩ := hJ
      rw [List.nil_append] at em2 hk
      refine ⟨_, rfl, ?_⟩
      simp only [Ss.wp, S.wp, E.wp, E.wpT, Es.wp, Es.wpV, Es.wpT, Oe.wpO, Oe.wpT, Wk.wp, wSeq, wRet, wRetN, wNext, wNever, wDrop, wAsg, wIfS, wFor, wPar, wPar3, wFldS, wSetI, wSetK, wDnew, wMeth, wBm, wAndV, wOrV, wNotV, wAnd, wOr, wNot, wTest, wTru, wIf, w1, w2, w3, wVar, wC, wNil, wCons, wTup, wLst, wCall, wCallK, wO0, wO1, wSl, wLc, wISeq, wIR1, wIR2, wIZip, wIStr, wIEn, wDc, DcK.emp, Wk.wp, binF, cmpF, isaD, negD, Blt.spec, Bm.spec, Bm.ty, List.getElem?_cons_zero, List.getElem?_cons_succ, Option.some.injEq, exists_eq_left', exists_eq_left, exists_and_left, List.set_cons_zero, List.set_cons_succ, asn_name, asn_tup, asns_nil, asns_name, wipeD, tru_bl, tru_int, tru_non, tru_tup, bodyEnds, List.map_cons, List.map_nil, ↓reduceIte, Bool.false_eq_true, and_true, true_and, D.str.injEq, D.int.injEq, D.ref.injEq, D.tup.injEq, D.bl.injEq, add_ii, add_ss, add_tt, mul_ii, int_ii, abs_i, int_i, int_b, eq_ii, eq_ss, lt_ii, le_ii, gt_ii, ge_ii, ix_0, ix_1, ix_2, len_tt, tup_n]
      refine ⟨.inl ⟨rfl, _, hk7⟩, by unfold small62; omega, by rw [rng_len, sizeLine_eq]; omega, ?_⟩
      refine lcGo_sub (T := ⟨rngI 0 s, fun _ => True⟩) (M0 := M5) (fun _ _ => trivial) (rngI 0 s) M5 (.refl _) (fun y hy acc3 M6 k' k8 y1 y2 => ?_) fun ms M6 k8 hms w hw => ?_
      · refine ⟨_, rfl, ?_⟩
        simp only [Ss.wp, S.wp, E.wp, E.wpT, Es.wp, Es.wpV, Es.wpT, Oe.wpO, Oe.wpT, Wk.wp, wSeq, wRet, wRetN, wNext, wNever, wDrop, wAsg, wIfS, wFor, wPar, wPar3, wFldS, wSetI, wSetK, wDnew, wMeth, wBm, wAndV, wOrV, wNotV, wAnd, wOr, wNot, wTest, wTru, wIf, w1, w2, w3, wVar, wC, wNil, wCons, wTup, wLst, wCall, wCallK, wO0, wO1, wSl, wLc, wISeq, wIR1, wIR2, wIZip, wIStr, wIEn, wDc, DcK.emp, Wk.wp, binF, cmpF, isaD, negD, Blt.spec, Bm.spec, Bm.ty, List.getElem?_cons_zero, List.getElem?_cons_succ, Option.some.injEq, exists_eq_left', exists_eq_left, exists_and_left, List.set_cons_zero, List.set_cons_succ, asn_name, asn_tup, asns_nil, asns_name, wipeD, tru_bl, tru_int, tru_non, tru_tup, bodyEnds, List.map_cons, List.map_nil, ↓reduceIte, Bool.false_eq_true, and_true, true_and, D.str.injEq, D.int.injEq, D.ref.injEq, D.tup.injEq, D.bl.injEq, add_ii, add_ss, add_tt, mul_ii, int_ii, abs_i, int_i, int_b, eq_ii, eq_ss, lt_ii, le_ii, gt_ii, ge_ii, ix_0, ix_1, ix_2, len_tt, tup_n]
        refine ⟨p, 3, rfl, k8 _ _ (k7 _ _ (k4 _ _ hp)), by decide, by decide, fun r5 v0 v1 => ?_⟩
        simp only [Ss.wp, S.wp, E.wp, E.wpT, Es.wp, Es.wpV, Es.wpT, Oe.wpO, Oe.wpT, Wk.wp, wSeq, wRet, wRetN, wNext, wNever, wDrop, wAsg, wIfS, wFor, wPar, wPar3, wFldS, wSetI, wSetK, wDnew, wMeth, wBm, wAndV, wOrV, wNotV, wAnd, wOr, wNot, wTest, wTru, wIf, w1, w2, w3, wVar, wC, wNil, wCons, wTup, wLst, wCall, wCallK, wO0, wO1, wSl, wLc, wISeq, wIR1, wIR2, wIZip, wIStr, wIEn, wDc, DcK.emp, Wk.wp, binF, cmpF, isaD, negD, Blt.spec, Bm.spec, Bm.ty, List.getElem?_cons_zero, List.getElem?_cons_succ, Option.some.injEq, exists_eq_left', exists_eq_left, exists_and_left, List.set_cons_zero, List.set_cons_succ, asn_name, asn_tup, asns_nil, asns_name, wipeD, tru_bl, tru_int, tru_non, tru_tup, bodyEnds, List.map_cons, List.map_nil, ↓reduceIte, Bool.false_eq_true, and_true, true_and, D.str.injEq, D.int.injEq, D.ref.injEq, D.tup.injEq, D.bl.injEq, add_ii, add_ss, add_tt, mul_ii, int_ii, abs_i, int_i, int_b, eq_ii, eq_ss, lt_ii, le_ii, gt_ii, ge_ii, ix_0, ix_1, ix_2, len_tt, tup_n]
        by_cases h5 : 0 < r5
        · simp only [h5, decide_true, if_true]
          exact y1 M6 k8
        · simp only [h5, decide_false, Bool.false_eq_true, if_false]
          exact y2 M6 k8
      · have nkw : kp ≠ w := fun e => by subst e; rw [k8 _ _ hk7] at hw; cases hw
        have nlw : l ≠ w := fun e => by subst e; rw [k8 _ _ hl7] at hw; cases hw
        refine ⟨by simp [sizeLine_eq], kp, acc2, _, rfl, rfl, by rw [up_ne nkw]; exact k8 _ _ hk7, ?_, ?_⟩
        · have e1 := len_em em2
          have e2 := congrArg List.length e
          rw [List.length_append, List.length_cons] at e2
          rw [sizeLine_eq]
          omega
        · refine hk _ _ ⟨(k7.trans (k8.trans (.new hw))).put hkp, ?_, ⟨acc2 ++ [.tup [x, .tup ms]], up_same, ?_, fun d hd => ?_⟩, _, rfl⟩
          · rw [up_ne (Ne.symm nlk), up_ne nlw]; exact k8 _ _ hl7
          · rw [List.map_append, em2]; rfl
          · rcases List.mem_append.mp hd with hd | hd
            · exact ha2 d hd
            · obtain rfl := List.mem_singleton.mp hd
              exact ⟨x, ms, rfl, .sub hms⟩
    · obtain ⟨k7, hl7, ⟨acc2, hk7, em2, ha2⟩, v, rfl⟩ := hJ
      rw [List.nil_append] at em2
      simp only [Ss.wp, S.wp, E.wp, E.wpT, Es.wp, Es.wpV, Es.wpT, Oe.wpO, Oe.wpT, Wk.wp, wSeq, wRet, wRetN, wNext, wNever, wDrop, wAsg, wIfS, wFor, wPar, wPar3, wFldS, wSetI, wSetK, wDnew, wMeth, wBm, wAndV, wOrV, wNotV, wAnd, wOr, wNot, wTest, wTru, wIf, w1, w2, w3, wVar, wC, wNil, wCons, wTup, wLst, wCall, wCallK, wO0, wO1, wSl, wLc, wISeq, wIR1, wIR2, wIZip, wIStr, wIEn, wDc, DcK.emp, Wk.wp, binF, cmpF, isaD, negD, Blt.spec, Bm.spec, Bm.ty, List.getElem?_cons_zero, List.getElem?_cons_succ, Option.some.injEq, exists_eq_left', exists_eq_left, exists_and_left, List.set_cons_zero, List.set_cons_succ, asn_name, asn_tup, asns_nil, asns_name, wipeD, tru_bl, tru_int, tru_non, tru_tup, bodyEnds, List.map_cons, List.map_nil, ↓reduceIte, Bool.false_eq_true, and_true, true_and, D.str.injEq, D.int.injEq, D.ref.injEq, D.tup.injEq, D.bl.injEq, add_ii, add_ss, add_tt, mul_ii, int_ii, abs_i, int_i, int_b, eq_ii, eq_ss, lt_ii, le_ii, gt_ii, ge_ii, ix_0, ix_1, ix_2, len_tt, tup_n]
      refine ⟨_, acc2, rfl, .inr ⟨kp, rfl, hk7⟩, by simp [sizeLine_eq], ?_⟩
      refine h _ s acc acc2 (k4.trans k7) (by omega) (by omega) okr (lists_of (fun x hx => okn.each x (hsub.subset hx)) (ris_sub okn.rise hsub) (by omega) em2 ha2) lacc (by rw [len_em em2]; omega)
end DL

set_option Elab.async false
set_option linter.all false
set_option maxRecDepth 100000
set_option maxHeartbeats 4000000
/-! W11: the sets' net is a net. -/
namespace DL
open PySem L2
def ixOf : D → D
  | .tup (i :: _) => i
  | _ => .non
theorem en_pair : ∀ (S : List D) (n : Nat), (enI n S).Pairwise fun x y => ∃ (i j : Nat) (d e : D), x = .tup [.int i, d] ∧ y = .tup [.int j, e] ∧ i < j
  | [], _ => .nil
  | d :: S, n => by
    show (D.tup [.int n, d] :: enI (n + 1) S).Pairwise _
    refine .cons (fun y hy => ?_) (en_pair S (n + 1))
    obtain ⟨j, e, rfl, _, hj, _⟩ := en_mem hy
    exact ⟨n, j, d, e, rfl, rfl, by omega⟩
theorem tie_ne {n1 n2 : Str} {is js : List Int} (h : n1 ≠ n2 ∨ is ≠ js) : tie n1 is ≠ tie n2 js := fun e => by
  unfold tie at e
  injection e with e
  injection e with e1 e2
  injection e1 with e1
  have e3 : is = js := (List.map_inj_right (f := D.int) fun a b q => by injection q).mp e2
  rcases h with h | h
  · exact h e1
  · exact h e3
theorem hitR_eq {nm : Str} {prs : List D} {i j : Nat} {d e x : D} (h : hitR nm prs (.tup [.int i, d]) (.tup [.int j, e]) = some x) : x = tie nm [(i : Int), (j : Int)] := by
  unfold hitR at h
  split at h
  · rename_i h1 h2
    cases h1
    cases h2
    split at h
    · cases h; rfl
    · cases h
  · cases h
theorem linksR_nodup (S : List D) (r : D) : (linksR S r).Nodup := by
  unfold linksR
  split
  · rename_i nm prs
    refine List.pairwise_flatMap.mpr ⟨fun a ha => ?_, ?_⟩
    · obtain ⟨i, d, rfl, _, _, _⟩ := en_mem ha
      rw [List.pairwise_filterMap]
      refine (en_pair S 0).imp fun {x y} h u hu v hv => ?_
      obtain ⟨a, b, d1, d2, rfl, rfl, hab⟩ := h
      rw [hitR_eq hu, hitR_eq hv]
      refine tie_ne (.inr fun e => ?_)
      injection e with _ e
      injection e with e _
      omega
    · refine (en_pair S 0).imp fun {x y} h u hu v hv => ?_
      obtain ⟨a, b, d1, d2, rfl, rfl, hab⟩ := h
      obtain ⟨z, hz, hu⟩ := List.mem_filterMap.mp hu
      obtain ⟨w, hw, hv⟩ := List.mem_filterMap.mp hv
      obtain ⟨i, _, rfl, _, _, _⟩ := en_mem hz
      obtain ⟨j, _, rfl, _, _, _⟩ := en_mem hw
      rw [hitR_eq hu, hitR_eq hv]
      refine tie_ne (.inr fun e => ?_)
      injection e with e _
      omega
  · exact .nil
theorem hitL_eq {nm : Str} {ms : List D} {i : Nat} {d x : D} (h : hitL nm ms (.tup [.int i, d]) = some x) : x = tie nm [(i : Int)] := by
  unfold hitL at h
  split at h
  · rename_i h1
    cases h1
    split at h
    · cases h; rfl
    · cases h
  · cases h
theorem labelsR_nodup (S : List D) (r : D) : (labelsR S r).Nodup := by
  unfold labelsR
  split
  · rename_i nm ms
    refine List.pairwise_filterMap.mpr ((en_pair S 0).imp fun {x y} h u hu v hv => ?_)
    obtain ⟨a, b, d1, d2, rfl, rfl, hab⟩ := h
    rw [hitL_eq hu, hitL_eq hv]
    refine tie_ne (.inr fun e => ?_)
    injection e with e _
    omega
  · exact .nil
theorem linksR_name {S : List D} {nm : Str} {d x : D} (h : x ∈ linksR S (.tup [.str nm, d])) : ∃ is, x = tie nm is := by
  have h' : x ∈ linksOf [.tup [.str nm, d]] S := by unfold linksOf; rw [List.flatMap_cons, List.flatMap_nil, List.append_nil]; exact h
  obtain ⟨nm', prs, i, j, hm, rfl, _⟩ := link_mem h'
  have e := List.mem_singleton.mp hm
  injection e with e
  injection e with e _
  injection e with e
  subst e
  exact ⟨_, rfl⟩
theorem labelsR_name {S : List D} {nm : Str} {d x : D} (h : x ∈ labelsR S (.tup [.str nm, d])) : ∃ is, x = tie nm is := by
  have h' : x ∈ labelsOf [.tup [.str nm, d]] S := by unfold labelsOf; rw [List.flatMap_cons, List.flatMap_nil, List.append_nil]; exact h
  obtain ⟨nm', prs, i, hm, rfl, _⟩ := label_mem h'
  have e := List.mem_singleton.mp hm
  injection e with e
  injection e with e _
  injection e with e
  subst e
  exact ⟨_, rfl⟩
theorem names_ne {xs : List D} (hc : ∀ x ∈ xs, called x) (hr : risB (xs.map nameD) = true) : xs.Pairwise fun x y => ∃ n1 n2 d1 d2, x = .tup [.str n1, d1] ∧ y = .tup [.str n2, d2] ∧ n1 ≠ n2 := by
  have h : (xs.map nameD).Pairwise fun x y => x ≠ y := ris_nodup hr
  rw [List.pairwise_map] at h
  refine h.imp_of_mem fun {a b} ha hb q => ?_
  obtain ⟨n1, d1, rfl, _⟩ := hc a ha
  obtain ⟨n2, d2, rfl, _⟩ := hc b hb
  exact ⟨n1, n2, d1, d2, rfl, rfl, fun e => q (by show D.str n1 = D.str n2; rw [e])⟩
theorem links_nodup {S rs : List D} (hc : ∀ x ∈ rs, called x) (hr : risB (rs.map nameD) = true) : (linksOf rs S).Nodup := by
  refine List.pairwise_flatMap.mpr ⟨fun a ha => linksR_nodup S a, (names_ne hc hr).imp fun {x y} h u hu v hv => ?_⟩
  obtain ⟨n1, n2, d1, d2, rfl, rfl, ne⟩ := h
  obtain ⟨is, rfl⟩ := linksR_name hu
  obtain ⟨js, rfl⟩ := linksR_name hv
  exact tie_ne (.inl ne)
theorem labels_nodup {S rs : List D} (hc : ∀ x ∈ rs, called x) (hr : risB (rs.map nameD) = true) : (labelsOf rs S).Nodup := by
  refine List.pairwise_flatMap.mpr ⟨fun a ha => labelsR_nodup S a, (names_ne hc hr).imp fun {x y} h u hu v hv => ?_⟩
  obtain ⟨n1, n2, d1, d2, rfl, rfl, ne⟩ := h
  obtain ⟨is, rfl⟩ := labelsR_name hu
  obtain ⟨js, rfl⟩ := labelsR_name hv
  exact tie_ne (.inl ne)
theorem sets_ok {n : Int} (h0 : 0 ≤ n) (h4 : n ≤ 4) : (setsL n).length ≤ 15 ∧ ∀ xs, .tup xs ∈ setsL n → xs.length ≤ sizeLine := by
  refine ⟨?_, fun xs hx => ?_⟩
  · rw [sets_len]
    have : 2 ^ n.toNat ≤ 2 ^ 4 := Nat.pow_le_pow_right (by decide) (by omega)
    omega
  · obtain ⟨is, e, hi⟩ := (found_ok _ _ rfl (rng_nums n)).2.2 _ (mem_sort.mp (List.mem_of_mem_drop hx))
    cases e
    rw [List.length_map, sizeLine_eq]
    rw [rng_len] at hi
    omega
theorem net_ok {n : Int} {rs ls : List D} (h0 : 0 ≤ n) (h4 : n ≤ 4) (hr : RulesOk n rs) (hl : ListsOk n ls) : NetOk (knotsL n) (sortD (linksOf rs (setsL n))) (sortD (labelsOf ls (setsL n))) := by
  have zS := (sets_ok h0 h4).1
  refine ⟨?_, ?_, ?_, ?_, ⟨fun x hx => ?_, ?_⟩, ⟨fun x hx => ?_, ?_⟩⟩
  · unfold knotsL; omega
  · unfold knotsL; omega
  · rw [len_sort]
    refine Nat.le_trans (flat_len (n := (setsL n).length * (setsL n).length) fun r _ => links_len _ r) ?_
    calc rs.length * ((setsL n).length * (setsL n).length) ≤ 3 * (15 * 15) := Nat.mul_le_mul hr.len (Nat.mul_le_mul zS zS)
      _ ≤ 700 := by decide
  · rw [len_sort]
    refine Nat.le_trans (flat_len (n := (setsL n).length) fun r _ => labels_len _ r) ?_
    calc ls.length * (setsL n).length ≤ 6 * 15 := Nat.mul_le_mul hl.len zS
      _ ≤ 400 := by decide
  · obtain ⟨nm, prs, i, j, hm, rfl, hi, hj⟩ := link_mem (mem_sort.mp hx)
    obtain ⟨nm', _, e, hn, _⟩ := hr.each _ hm
    cases e
    refine ⟨nm, _, rfl, rfl, hn, fun z hz => ?_⟩
    unfold knotsL
    simp only [List.mem_cons, List.not_mem_nil, or_false] at hz
    rcases hz with rfl | rfl <;> omega
  · exact sort_rise (inj_ties links_tie) (links_nodup hr.called hr.rise)
  · obtain ⟨nm, ms, i, hm, rfl, hi⟩ := label_mem (mem_sort.mp hx)
    obtain ⟨nm', _, e, hn, _⟩ := hl.each _ hm
    cases e
    refine ⟨nm, _, rfl, rfl, hn, fun z hz => ?_⟩
    unfold knotsL
    simp only [List.mem_cons, List.not_mem_nil, or_false] at hz
    subst hz
    omega
  · exact sort_rise (inj_ties labels_tie) (labels_nodup hl.called hl.rise)
end DL

set_option Elab.async false
set_option linter.all false
set_option maxRecDepth 100000
set_option maxHeartbeats 4000000
/-! W12a: repr of nets. -/
namespace DL
open PySem L2
theorem tie_repr {nm : Str} {is : List Int} {n : Nat} (hn : nameS nm = true) (hl : is.length ≤ 2) (hi : ∀ i ∈ is, i.natAbs < 100) : (py (tie nm is)).shown.length ≤ 200 ∧ (py (tie nm is)).showable = true := by
  unfold tie
  constructor
  · refine Nat.le_trans (shown_tup (n := 62) fun d hd => ?_) ?_
    · rcases List.mem_cons.mp hd with rfl | hd
      · exact shown_name hn
      · obtain ⟨i, hi', rfl⟩ := List.mem_map.mp hd
        exact Nat.le_trans (shown_int (k := 2) (by decide) (hi i hi')) (by decide)
    · rw [List.length_cons, List.length_map]; omega
  · refine showable_tup fun d hd => ?_
    rcases List.mem_cons.mp hd with rfl | hd
    · exact showable_str _
    · obtain ⟨i, hi', rfl⟩ := List.mem_map.mp hd
      exact showable_int (Nat.lt_trans (hi i hi') (by decide))
theorem ties_repr {knots : Int} {n : Nat} {xs : List D} (h : TiesOk knots n xs) (hn : n ≤ 2) (hk : knots ≤ 60) (hl : xs.length ≤ 700) : (py (.tup xs)).shown.length ≤ 150000 ∧ (py (.tup xs)).showable = true := by
  have q : ∀ d ∈ xs, (py d).shown.length ≤ 200 ∧ (py d).showable = true := fun d hd => by
    obtain ⟨nm, is, rfl, el, hn', hi⟩ := h.each d hd
    exact tie_repr (n := n) hn' (by omega) fun i hi' => by have := hi i hi'; omega
  constructor
  · refine Nat.le_trans (shown_tup (n := 200) fun d hd => (q d hd).1) ?_
    have : xs.length * (200 + 2) ≤ 700 * 202 := Nat.mul_le_mul_right _ hl
    omega
  · exact showable_tup fun d hd => (q d hd).2
theorem NetOk.repr {knots : Int} {ls bs : List D} (h : NetOk knots ls bs) : (py (netT knots ls bs)).shown.length ≤ sizeLine ∧ (py (netT knots ls bs)).showable = true := by
  have h1 := ties_repr h.lk (by decide) h.k1 h.ll
  have h2 := ties_repr h.lb (by decide) h.k1 (by have := h.bl; omega)
  have h3 : (py (.int knots)).shown.length ≤ 150000 ∧ (py (.int knots)).showable = true := by
    have := h.k0
    have := h.k1
    have e : knots.natAbs < 10 ^ 2 := by omega
    exact ⟨Nat.le_trans (shown_int (k := 2) (by decide) e) (by decide), showable_int (Nat.lt_trans e (by decide))⟩
  have q : ∀ d ∈ [D.int knots, .tup ls, .tup bs], (py d).shown.length ≤ 150000 ∧ (py d).showable = true := fun d hd => by
    simp only [List.mem_cons, List.not_mem_nil, or_false] at hd
    rcases hd with rfl | rfl | rfl
    · exact h3
    · exact h1
    · exact h2
  constructor
  · refine Nat.le_trans (shown_tup (n := 150000) fun d hd => (q d hd).1) ?_
    rw [sizeLine_eq]
    simp
  · exact showable_tup fun d hd => (q d hd).2
theorem repr_net {knots : Int} {ls bs : List D} {M : Mp} {Q : DQ} (h : NetOk knots ls bs) (q : Q (.str (py (netT knots ls bs)).shown) M) : reprS [netT knots ls bs] M Q := by
  obtain ⟨g1, _, g3⟩ := h.good
  obtain ⟨r1, r2⟩ := h.repr
  exact .inl ⟨_, rfl, g1, r2, by unfold netT at g3; omega, r1, q⟩
end DL

set_option Elab.async false
set_option linter.all false
set_option maxRecDepth 100000
set_option maxHeartbeats 4000000
/-! W13: the law's net. -/
namespace DL
open PySem L2
def tkey (nm : Str) (is : List Int) : List Key := .inr nm :: is.map .inl
theorem keyT_tkey (nm : Str) (is : List Int) : keyT (tkey nm is) = tie nm is := by
  unfold keyT tkey tie
  rw [List.map_cons, List.map_map]
  rfl
theorem tkey_inj {n1 n2 : Str} {is js : List Int} (h : tkey n1 is = tkey n2 js) : n1 = n2 ∧ is = js := by
  unfold tkey at h
  injection h with h1 h2
  injection h1 with h1
  exact ⟨h1, (List.map_inj_right (f := (Sum.inl : Int → Key)) fun a b q => by injection q).mp h2⟩
structure TKeys (names : List D) (many : Int) (n : Nat) (kvs : List (List Key × D)) : Prop where
  nd : (kvs.map Prod.fst).Nodup
  each : ∀ p ∈ kvs, ∃ nm is, p.1 = tkey nm is ∧ is.length = n ∧ .str nm ∈ names ∧ ∀ i ∈ is, 0 ≤ i ∧ i ≤ many - 1
theorem TKeys.nil {names : List D} {many : Int} {n : Nat} : TKeys names many n [] := ⟨.nil, fun p hp => by cases hp⟩
theorem keys_put {κ : Type} [DecidableEq κ] (kvs : List (κ × D)) (k : κ) (d : D) : (putL kvs k d).map Prod.fst = if hasK kvs k = true then kvs.map Prod.fst else kvs.map Prod.fst ++ [k] := by
  unfold putL
  split
  · rw [List.map_map]
    apply List.map_congr_left
    intro p _
    show (if p.1 = k then (p.1, d) else p).1 = p.1
    split <;> rfl
  · rw [List.map_append]; rfl
theorem put_len {κ : Type} [DecidableEq κ] (kvs : List (κ × D)) (k : κ) (d : D) : (putL kvs k d).length ≤ kvs.length + 1 := by
  have h := congrArg List.length (keys_put kvs k d)
  rw [List.length_map] at h
  rw [h]
  split
  · rw [List.length_map]; omega
  · rw [List.length_append, List.length_map]; simp
theorem TKeys.put {names : List D} {many : Int} {n : Nat} {kvs : List (List Key × D)} (h : TKeys names many n kvs) {nm : Str} {is : List Int} {d : D} (hl : is.length = n) (hn : .str nm ∈ names) (hi : ∀ i ∈ is, 0 ≤ i ∧ i ≤ many - 1) : TKeys names many n (putL kvs (tkey nm is) d) := by
  have ek := keys_put kvs (tkey nm is) d
  refine ⟨?_, fun p hp => ?_⟩
  · rw [ek]
    split
    · exact h.nd
    · rename_i q
      refine List.nodup_append.mpr ⟨h.nd, by simp, fun a ha b hb e => ?_⟩
      rw [List.mem_singleton.mp hb] at e
      subst e
      exact q (hasK_iff.mpr ha)
  · have hm : p.1 ∈ (putL kvs (tkey nm is) d).map Prod.fst := List.mem_map_of_mem hp
    rw [ek] at hm
    have old : p.1 ∈ kvs.map Prod.fst → ∃ nm is, p.1 = tkey nm is ∧ is.length = n ∧ .str nm ∈ names ∧ ∀ i ∈ is, 0 ≤ i ∧ i ≤ many - 1 := fun hm => by
      obtain ⟨q, hq, e⟩ := List.mem_map.mp hm
      rw [← e]
      exact h.each q hq
    split at hm
    · exact old hm
    · rcases List.mem_append.mp hm with hm | hm
      · exact old hm
      · rw [List.mem_singleton.mp hm]
        exact ⟨nm, is, rfl, hl, hn, hi⟩
def tiesK (kvs : List (List Key × D)) : List D := kvs.map fun p => keyT p.1
theorem TKeys.tie {names : List D} {many : Int} {n : Nat} {kvs : List (List Key × D)} (h : TKeys names many n kvs) : ∀ x ∈ tiesK kvs, ∃ nm is, x = tie nm is ∧ is.length = n ∧ .str nm ∈ names ∧ ∀ i ∈ is, 0 ≤ i ∧ i ≤ many - 1 := fun x hx => by
  obtain ⟨p, hp, rfl⟩ := List.mem_map.mp hx
  obtain ⟨nm, is, e, r⟩ := h.each p hp
  exact ⟨nm, is, by rw [e, keyT_tkey], r⟩
theorem TKeys.nodup {names : List D} {many : Int} {n : Nat} {kvs : List (List Key × D)} (h : TKeys names many n kvs) : (tiesK kvs).Nodup := by
  unfold tiesK
  have e : (kvs.map fun p => keyT p.1) = (kvs.map Prod.fst).map keyT := by rw [List.map_map]; rfl
  rw [e]
  refine nodup_on h.nd fun a ha b hb q => ?_
  obtain ⟨p, hp, rfl⟩ := List.mem_map.mp ha
  obtain ⟨p', hp', rfl⟩ := List.mem_map.mp hb
  obtain ⟨n1, is, e1, _⟩ := h.each p hp
  obtain ⟨n2, js, e2, _⟩ := h.each p' hp'
  rw [e1, e2, keyT_tkey, keyT_tkey] at q
  rw [e1, e2]
  unfold DL.tie at q
  injection q with q
  injection q with q1 q2
  injection q1 with q1
  rw [q1, (List.map_inj_right (f := D.int) fun a b z => by injection z).mp q2]
theorem TKeys.ok {names : List D} {many : Int} {n : Nat} {kvs : List (List Key × D)} (h : TKeys names many n kvs) (hn : ∀ x ∈ names, isNm x = true) : TiesOk many n (sortD (tiesK kvs)) := by
  refine ⟨fun x hx => ?_, sort_rise (inj_ties fun x hx => let ⟨nm, is, e, _⟩ := h.tie x hx; ⟨nm, is, e⟩) h.nodup⟩
  obtain ⟨nm, is, e, hl, hm, hi⟩ := h.tie x (mem_sort.mp hx)
  exact ⟨nm, is, e, hl, hn _ hm, hi⟩
theorem sortX_ties {names : List D} {many : Int} {n : Nat} {a : Addr} {P : Program} {w : World} {kvs : List (List Key × D)} {M : Mp} {Q : DQ} (h : TKeys names many n kvs) (hz : kvs.length ≤ sizeLine) (ha : M a = some (.dX P w kvs)) (hq : ∀ p, M p = none → Q (.ref p) (up M p (.lst (sortD (tiesK kvs))))) : sortXS [.ref a] M Q := by
  refine ⟨a, P, w, kvs, rfl, ha, fun d hd d' hd' => ?_, fun p hp => ?_, fun p hp => ?_, hz, hq⟩
  · obtain ⟨x, h1, rfl⟩ := List.mem_map.mp hd
    obtain ⟨y, h2, rfl⟩ := List.mem_map.mp hd'
    obtain ⟨nm, is, rfl, _⟩ := h.tie x h1
    obtain ⟨nm', js, rfl, _⟩ := h.tie y h2
    exact (cmpP_tie nm nm' is js).2.2.1
  · obtain ⟨nm, is, e, _⟩ := h.each p hp
    rw [e]
    unfold tkey
    simp
  · obtain ⟨nm, is, e, _⟩ := h.each p hp
    rw [e, keyT_tkey]
    exact Nat.le_trans (dep_tie nm is) (by decide)
/-! ### the law's net -/
/-- a net's values whose names are a home's -/
structure MeshOk (rs ls : List D) (many : Int) (ks bs : List D) : Prop where
  net : NetOk many ks bs
  kn : ∀ x ∈ ks, ∃ nm is, x = tie nm is ∧ .str nm ∈ rs.map nameD
  bn : ∀ x ∈ bs, ∃ nm is, x = tie nm is ∧ .str nm ∈ ls.map nameD
theorem TiesOk.nil {many : Int} {n : Nat} : TiesOk many n [] := ⟨fun x hx => (by cases hx), rfl⟩
theorem MeshOk.nil {rs ls : List D} : MeshOk rs ls 0 [] [] := ⟨⟨by decide, by decide, by decide, by decide, .nil, .nil⟩, fun x hx => (by cases hx), fun x hx => (by cases hx)⟩
theorem names_ok {xs : List D} (hc : ∀ x ∈ xs, called x) : ∀ x ∈ xs.map nameD, isNm x = true := fun x hx => by
  obtain ⟨y, hy, rfl⟩ := List.mem_map.mp hx
  obtain ⟨nm, d, rfl, hn⟩ := hc y hy
  exact hn
theorem lists_good {s : Int} {ls : List D} (h : ListsOk s ls) : plain (.tup ls) = true ∧ lay (.tup ls) ∧ (py (.tup ls)).depth ≤ 64 := by
  have q : ∀ d ∈ ls, plain d = true ∧ lay d ∧ (py d).depth ≤ 3 := fun d hd => by
    obtain ⟨nm, ms, rfl, hn, hm, _⟩ := h.each d hd
    have qm : ∀ e ∈ ms, plain e = true ∧ lay e ∧ (py e).depth ≤ 1 := fun e he => by
      obtain ⟨i, rfl⟩ := isWh_int (hm e he)
      exact ⟨rfl, lay_int i, by simp [py, PyData.depth]⟩
    refine ⟨?_, lay_tup fun e he => ?_, dep_le (n := 2) fun e he => ?_⟩
    · show (plain (.str nm) && (plain (.tup ms) && true)) = true
      have : plain (.tup ms) = true := plains_of fun e he => (qm e he).1
      rw [this]; rfl
    · simp only [List.mem_cons, List.not_mem_nil, or_false] at he
      rcases he with rfl | rfl
      · exact lay_name hn
      · exact lay_tup fun e he => (qm e he).2.1
    · simp only [List.mem_cons, List.not_mem_nil, or_false] at he
      rcases he with rfl | rfl
      · simp [py, PyData.depth]
      · exact dep_le (n := 1) fun e he => (qm e he).2.2
  exact ⟨plains_of fun d hd => (q d hd).1, lay_tup fun d hd => (q d hd).2.1, Nat.le_trans (dep_le (n := 3) fun d hd => (q d hd).2.2) (by decide)⟩
/-- ls != () -/
theorem ne_empty {s : Int} {ls : List D} {M : Mp} {Q : DQ} (h : ListsOk s ls) (q : Q (.bl (!ls.isEmpty)) M) : eqD true (.tup ls) (.tup []) M Q := by
  obtain ⟨g1, g2, g3⟩ := lists_good h
  refine eq_plain g1 rfl (shaped_py g2 g3) (shaped_py (lay_tup fun d hd => by cases hd) (by simp [py, pys, PyData.depth, PyData.depthAll])) ?_
  cases ls with
  | nil => simpa [py, pys, PyData.eqv, PyData.eqvAll] using q
  | cons x xs => simpa [py, pys, PyData.eqv, PyData.eqvAll] using q
def homeT (s : Int) (rs ls : List D) : D := .tup [.int s, .tup rs, .tup ls]
def meshT (many : Int) (ks bs : List D) : D := .tup [.int many, .tup ks, .tup bs]
def S_l_mesh (_ : Cs) : Spec := fun ds M Q => ∃ p s rs ls most ties, ds = [.ref p, homeT s rs ls, .int most, .int ties] ∧ M p = some .pot ∧ RulesOk s rs ∧ ListsOk s ls ∧ 1 ≤ rs.length ∧ 0 ≤ most ∧ most ≤ 60 ∧ 0 ≤ ties ∧ ties ≤ 700 ∧
  ∀ M' many ks bs, Keep M M' → 0 ≤ many → many ≤ most → MeshOk rs ls many ks bs → ks.length ≤ ties.toNat → bs.length ≤ 3 → Q (meshT many ks bs) M'
abbrev N_l_mesh : List Str := ["_law_pot_here", "_law_home_here", "_law_most", "_law_ties", "_law_turn", "_law_many", "_law_found", "_law_named", "_law_rule", "_law_one", "_law_far_one"]
def ir_l_mesh (c : Cs) : Ss := (.cons (.par3 5 6 7 (.cons (.call "_law_take" (S_l_take c) (.cons (.var 0) (.cons (.bin .Add (.var 2) (.int 1)) .nil))) (.cons (.dnew (.t c.P c.w)) (.cons (.dnew (.t c.P c.w)) .nil)))) (.cons (.ife (.cmp .Eq (.var 5) (.int 0)) (.cons (.ret (.tup (.cons (.int 0) (.cons (.tup .nil) (.cons (.tup .nil) .nil))))) .nil) .nil) (.cons (.for_ (.name 4) (.r1 (.call "_law_take" (S_l_take c) (.cons (.var 0) (.cons (.bin .Add (.var 3) (.int 1)) .nil)))) (.cons (.asg (.name 8) (.idx (.call "_law_of" (S_l_of c) (.cons (.var 0) (.cons (.bcall .list (.cons (.idx (.var 1) (.int 1)) .nil)) .nil))) (.int 0))) (.cons (.asg (.name 9) (.call "_law_take" (S_l_take c) (.cons (.var 0) (.cons (.var 5) .nil)))) (.cons (.asg (.name 10) (.call "_law_of" (S_l_of c) (.cons (.var 0) (.cons (.lst (.cons (.bin .Mod (.bin .Add (.var 9) (.int 1)) (.var 5)) (.cons (.call "_law_take" (S_l_take c) (.cons (.var 0) (.cons (.var 5) .nil))) .nil))) .nil)))) (.cons (.setK (.t c.P c.w) (.var 6) (.tup (.cons (.var 8) (.cons (.var 9) (.cons (.var 10) .nil)))) (.bl true)) .nil))))) (.cons (.for_ (.name 4) (.r1 (.bin .Mult (.call "_law_take" (S_l_take c) (.cons (.var 0) (.cons (.int 4) .nil))) (.bcall .int (.cons (.cmp .NotEq (.idx (.var 1) (.int 2)) (.tup .nil)) .nil)))) (.cons (.setK (.t c.P c.w) (.var 7) (.tup (.cons (.idx (.call "_law_of" (S_l_of c) (.cons (.var 0) (.cons (.bcall .list (.cons (.idx (.var 1) (.int 2)) .nil)) .nil))) (.int 0)) (.cons (.call "_law_take" (S_l_take c) (.cons (.var 0) (.cons (.var 5) .nil))) .nil))) (.bl true)) .nil)) (.cons (.ret (.tup (.cons (.var 5) (.cons (.bcall .tuple (.cons (.sortX (.var 6)) .nil)) (.cons (.bcall .tuple (.cons (.sortX (.var 7)) .nil)) .nil))))) .nil)))))
theorem wp_l_mesh (c : Cs) {p : Addr} {s most ties : Int} {rs ls : List D} {M : Mp} {Q : DQ} (hp : M p = some .pot) (okr : RulesOk s rs) (okl : ListsOk s ls) (r1 : 1 ≤ rs.length) (m0 : 0 ≤ most) (m1 : most ≤ 60) (t0 : 0 ≤ ties) (t1 : ties ≤ 700)
    (h : ∀ M' many ks bs, Keep M M' → 0 ≤ many → many ≤ most → MeshOk rs ls many ks bs → ks.length ≤ ties.toNat → bs.length ≤ 3 → Q (meshT many ks bs) M') :
    (ir_l_mesh c).wp (bodyEnds Q) [some (.ref p), some (homeT s rs ls), some (.int most), some (.int ties), none, none, none, none, none, none, none] M := by
  simp only [ir_l_mesh, homeT, Ss.wp, S.wp, E.wp, E.wpT, Es.wp, Es.wpV, Es.wpT, Oe.wpO, Oe.wpT, Wk.wp, wSeq, wRet, wRetN, wNext, wNever, wDrop, wAsg, wIfS, wFor, wPar, wPar3, wFldS, wSetI, wSetK, wDnew, wMeth, wBm, wAndV, wOrV, wNotV, wAnd, wOr, wNot, wTest, wTru, wIf, w1, w2, w3, wVar, wC, wNil, wCons, wTup, wLst, wCall, wCallK, wO0, wO1, wSl, wLc, wISeq, wIR1, wIR2, wIZip, wIStr, wIEn, wDc, DcK.emp, Wk.wp, binF, cmpF, isaD, negD, Blt.spec, Bm.spec, Bm.ty, List.getElem?_cons_zero, List.getElem?_cons_succ, Option.some.injEq, exists_eq_left', exists_eq_left, exists_and_left, List.set_cons_zero, List.set_cons_succ, asn_name, asn_tup, asns_nil, asns_name, wipeD, tru_bl, tru_int, tru_non, tru_tup, bodyEnds, List.map_cons, List.map_nil, ↓reduceIte, Bool.false_eq_true, and_true, true_and, D.str.injEq, D.int.injEq, D.ref.injEq, D.tup.injEq, D.bl.injEq, add_ii, add_ss, add_tt, mul_ii, int_ii, abs_i, int_i, int_b, eq_ii, eq_ss, lt_ii, le_ii, gt_ii, ge_ii, ix_0, ix_1, ix_2, len_tt, tup_n]
  refine ⟨p, most + 1, rfl, hp, by omega, by omega, fun many n0 n1 => ?_⟩
  intro fp hfp np hnp
  refine ⟨_, _, _, rfl, ?_⟩
  simp only [Ss.wp, S.wp, E.wp, E.wpT, Es.wp, Es.wpV, Es.wpT, Oe.wpO, Oe.wpT, Wk.wp, wSeq, wRet, wRetN, wNext, wNever, wDrop, wAsg, wIfS, wFor, wPar, wPar3, wFldS, wSetI, wSetK, wDnew, wMeth, wBm, wAndV, wOrV, wNotV, wAnd, wOr, wNot, wTest, wTru, wIf, w1, w2, w3, wVar, wC, wNil, wCons, wTup, wLst, wCall, wCallK, wO0, wO1, wSl, wLc, wISeq, wIR1, wIR2, wIZip, wIStr, wIEn, wDc, DcK.emp, Wk.wp, binF, cmpF, isaD, negD, Blt.spec, Bm.spec, Bm.ty, List.getElem?_cons_zero, List.getElem?_cons_succ, Option.some.injEq, exists_eq_left', exists_eq_left, exists_and_left, List.set_cons_zero, List.set_cons_succ, asn_name, asn_tup, asns_nil, asns_name, wipeD, tru_bl, tru_int, tru_non, tru_tup, bodyEnds, List.map_cons, List.map_nil, ↓reduceIte, Bool.false_eq_true, and_true, true_and, D.str.injEq, D.int.injEq, D.ref.injEq, D.tup.injEq, D.bl.injEq, add_ii, add_ss, add_tt, mul_ii, int_ii, abs_i, int_i, int_b, eq_ii, eq_ss, lt_ii, le_ii, gt_ii, ge_ii, ix_0, ix_1, ix_2, len_tt, tup_n]
  have nfn : fp ≠ np := fun z => by subst z; rw [up_same] at hnp; cases hnp
  have hnp' : M np = none := by rw [up_ne (Ne.symm nfn)] at hnp; exact hnp
  have k0 : Keep M (up (up M fp (.dX c.P c.w [])) np (.dX c.P c.w [])) := (Keep.new hfp).trans (.new hnp)
  have ef : up (up M fp (.dX c.P c.w [])) np (.dX c.P c.w []) fp = some (.dX c.P c.w []) := by rw [up_ne nfn]; exact up_same
  have en : up (up M fp (.dX c.P c.w [])) np (.dX c.P c.w []) np = some (.dX c.P c.w []) := up_same
  generalize up (up M fp (.dX c.P c.w [])) np (.dX c.P c.w []) = M0 at k0 ef en ⊢
  by_cases hm : many = 0
  · subst hm
    simp only [decide_true, if_true]
    exact ⟨by simp [sizeLine_eq], by simp [sizeLine_eq], by simp [sizeLine_eq], h M0 0 [] [] k0 (by decide) m0 .nil (by simp) (by simp)⟩
  simp only [hm, decide_false, Bool.false_eq_true, if_false]
  refine ⟨p, ties + 1, rfl, k0 _ _ hp, by omega, by omega, fun r r0 r1' => ⟨r, rfl, by unfold small62; omega, ?_⟩⟩
  have zr : (rngI 0 r).length ≤ ties.toNat := by rw [rng_len]; omega
  refine forGo_pos (T := ⟨rngI 0 r, fun _ => True⟩) (fun done ρ M2 => Keep M M2 ∧ (∃ kvs, M2 fp = some (.dX c.P c.w kvs) ∧ TKeys (rs.map nameD) many 2 kvs ∧ kvs.length ≤ done.length) ∧ M2 np = some (.dX c.P c.w []) ∧
    ∃ v4 v8 v9 v10, ρ = [some (.ref p), some (.tup [.int s, .tup rs, .tup ls]), some (.int most), some (.int ties), v4, some (.int many), some (.ref fp), some (.ref np), v8, v9, v10]) (fun _ _ _ _ => trivial) (rngI 0 r) [] _ M0 ⟨k0, ⟨[], ef, .nil, by simp⟩, en, _, _, _, _, rfl⟩ (fun x pre post e ρ M2 k hJ hk => ?_) fun ρ M2 hJ => ?_
  · obtain ⟨k2, ⟨kvs, hf, tk, lk⟩, hn2, v4, v8, v9, v10, rfl⟩ := hJ
    rw [List.nil_append] at lk hk
    refine ⟨_, rfl, ?_⟩
    simp only [Ss.wp, S.wp, E.wp, E.wpT, Es.wp, Es.wpV, Es.wpT, Oe.wpO, Oe.wpT, Wk.wp, wSeq, wRet, wRetN, wNext, wNever, wDrop, wAsg, wIfS, wFor, wPar, wPar3, wFldS, wSetI, wSetK, wDnew, wMeth, wBm, wAndV, wOrV, wNotV, wAnd, wOr, wNot, wTest, wTru, wIf, w1, w2, w3, wVar, wC, wNil, wCons, wTup, wLst, wCall, wCallK, wO0, wO1, wSl, wLc, wISeq, wIR1, wIR2, wIZip, wIStr, wIEn, wDc, DcK.emp, Wk.wp, binF, cmpF, isaD, negD, Blt.spec, Bm.spec, Bm.ty, List.getElem?_cons_zero, List.getElem?_cons_succ, Option.some.injEq, exists_eq_left', exists_eq_left, exists_and_left, List.set_cons_zero, List.set_cons_succ, asn_name, asn_tup, asns_nil, asns_name, wipeD, tru_bl, tru_int, tru_non, tru_tup, bodyEnds, List.map_cons, List.map_nil, ↓reduceIte, Bool.false_eq_true, and_true, true_and, D.str.injEq, D.int.injEq, D.ref.injEq, D.tup.injEq, D.bl.injEq, add_ii, add_ss, add_tt, mul_ii, int_ii, abs_i, int_i, int_b, eq_ii, eq_ss, lt_ii, le_ii, gt_ii, ge_ii, ix_0, ix_1, ix_2, len_tt, tup_n]
    refine .inl ⟨_, rs, rfl, .inl rfl, fun l hl => ⟨p, l, rs, rfl, Keep.new hl _ _ (k2 _ _ hp), up_same, fun z => by rw [z] at r1; simp at r1, by have := okr.len; omega, fun y hy => ?_⟩⟩
    obtain ⟨nm, prs, rfl, hnm, _⟩ := okr.each y hy
    have k3 : Keep M2 (up M2 l (.lst rs)) := .new hl
    generalize up M2 l (.lst rs) = M3 at k3 ⊢
    simp only [Ss.wp, S.wp, E.wp, E.wpT, Es.wp, Es.wpV, Es.wpT, Oe.wpO, Oe.wpT, Wk.wp, wSeq, wRet, wRetN, wNext, wNever, wDrop, wAsg, wIfS, wFor, wPar, wPar3, wFldS, wSetI, wSetK, wDnew, wMeth, wBm, wAndV, wOrV, wNotV, wAnd, wOr, wNot, wTest, wTru, wIf, w1, w2, w3, wVar, wC, wNil, wCons, wTup, wLst, wCall, wCallK, wO0, wO1, wSl, wLc, wISeq, wIR1, wIR2, wIZip, wIStr, wIEn, wDc, DcK.emp, Wk.wp, binF, cmpF, isaD, negD, Blt.spec, Bm.spec, Bm.ty, List.getElem?_cons_zero, List.getElem?_cons_succ, Option.some.injEq, exists_eq_left', exists_eq_left, exists_and_left, List.set_cons_zero, List.set_cons_succ, asn_name, asn_tup, asns_nil, asns_name, wipeD, tru_bl, tru_int, tru_non, tru_tup, bodyEnds, List.map_cons, List.map_nil, ↓reduceIte, Bool.false_eq_true, and_true, true_and, D.str.injEq, D.int.injEq, D.ref.injEq, D.tup.injEq, D.bl.injEq, add_ii, add_ss, add_tt, mul_ii, int_ii, abs_i, int_i, int_b, eq_ii, eq_ss, lt_ii, le_ii, gt_ii, ge_ii, ix_0, ix_1, ix_2, len_tt, tup_n]
    refine ⟨p, many, rfl, k3 _ _ (k2 _ _ hp), by omega, by omega, fun one o0 o1 => ?_⟩
    simp only [Ss.wp, S.wp, E.wp, E.wpT, Es.wp, Es.wpV, Es.wpT, Oe.wpO, Oe.wpT, Wk.wp, wSeq, wRet, wRetN, wNext, wNever, wDrop, wAsg, wIfS, wFor, wPar, wPar3, wFldS, wSetI, wSetK, wDnew, wMeth, wBm, wAndV, wOrV, wNotV, wAnd, wOr, wNot, wTest, wTru, wIf, w1, w2, w3, wVar, wC, wNil, wCons, wTup, wLst, wCall, wCallK, wO0, wO1, wSl, wLc, wISeq, wIR1, wIR2, wIZip, wIStr, wIEn, wDc, DcK.emp, Wk.wp, binF, cmpF, isaD, negD, Blt.spec, Bm.spec, Bm.ty, List.getElem?_cons_zero, List.getElem?_cons_succ, Option.some.injEq, exists_eq_left', exists_eq_left, exists_and_left, List.set_cons_zero, List.set_cons_succ, asn_name, asn_tup, asns_nil, asns_name, wipeD, tru_bl, tru_int, tru_non, tru_tup, bodyEnds, List.map_cons, List.map_nil, ↓reduceIte, Bool.false_eq_true, and_true, true_and, D.str.injEq, D.int.injEq, D.ref.injEq, D.tup.injEq, D.bl.injEq, add_ii, add_ss, add_tt, mul_ii, int_ii, abs_i, int_i, int_b, eq_ii, eq_ss, lt_ii, le_ii, gt_ii, ge_ii, ix_0, ix_1, ix_2, len_tt, tup_n]
    refine ⟨by omega, p, many, rfl, k3 _ _ (k2 _ _ hp), by omega, by omega, fun two u0 u1 => ?_⟩
    refine ⟨by simp [sizeLine_eq], fun l2 hl2 => ⟨p, l2, _, rfl, Keep.new hl2 _ _ (k3 _ _ (k2 _ _ hp)), up_same, by simp, by simp, fun y2 hy2 => ?_⟩⟩
    obtain ⟨far, rfl, f0, f1⟩ : ∃ far : Int, y2 = .int far ∧ 0 ≤ far ∧ far < many := by
      simp only [List.mem_cons, List.not_mem_nil, or_false] at hy2
      rcases hy2 with rfl | rfl
      · exact ⟨_, rfl, Int.emod_nonneg _ (by omega), Int.emod_lt_of_pos _ (by omega)⟩
      · exact ⟨_, rfl, u0, u1⟩
    have k4 : Keep M2 (up M3 l2 (.lst [D.int ((one + 1) % many), D.int two])) := k3.trans (.new hl2)
    have zk : kvs.length ≤ 700 := by
      have := congrArg List.length e
      rw [List.length_append, List.length_cons] at this
      omega
    refine ⟨by simp [sizeLine_eq], _, k4 _ _ hf, ⟨kvs, rfl⟩, by show kvs.length < sizeLine; rw [sizeLine_eq]; omega, .dX c.P c.w (putL kvs (tkey nm [one, far]) (.bl true)), rfl, hk _ _ ⟨(k2.trans k4).put hfp, ⟨_, up_same, tk.put rfl (List.mem_map.mpr ⟨_, hy, rfl⟩) fun i hi => ?_, ?_⟩, ?_, _, _, _, _, rfl⟩⟩
    · simp only [List.mem_cons, List.not_mem_nil, or_false] at hi
      rcases hi with rfl | rfl <;> omega
    · have := put_len kvs (tkey nm [one, far]) (.bl true)
      rw [List.length_append, List.length_singleton]
      omega
    · rw [up_ne (Ne.symm nfn)]; exact k4 _ _ hn2
  · obtain ⟨k2, ⟨kvs, hf, tk, lk⟩, hn2, v4, v8, v9, v10, rfl⟩ := hJ
    rw [List.nil_append] at lk
    simp only [Ss.wp, S.wp, E.wp, E.wpT, Es.wp, Es.wpV, Es.wpT, Oe.wpO, Oe.wpT, Wk.wp, wSeq, wRet, wRetN, wNext, wNever, wDrop, wAsg, wIfS, wFor, wPar, wPar3, wFldS, wSetI, wSetK, wDnew, wMeth, wBm, wAndV, wOrV, wNotV, wAnd, wOr, wNot, wTest, wTru, wIf, w1, w2, w3, wVar, wC, wNil, wCons, wTup, wLst, wCall, wCallK, wO0, wO1, wSl, wLc, wISeq, wIR1, wIR2, wIZip, wIStr, wIEn, wDc, DcK.emp, Wk.wp, binF, cmpF, isaD, negD, Blt.spec, Bm.spec, Bm.ty, List.getElem?_cons_zero, List.getElem?_cons_succ, Option.some.injEq, exists_eq_left', exists_eq_left, exists_and_left, List.set_cons_zero, List.set_cons_succ, asn_name, asn_tup, asns_nil, asns_name, wipeD, tru_bl, tru_int, tru_non, tru_tup, bodyEnds, List.map_cons, List.map_nil, ↓reduceIte, Bool.false_eq_true, and_true, true_and, D.str.injEq, D.int.injEq, D.ref.injEq, D.tup.injEq, D.bl.injEq, add_ii, add_ss, add_tt, mul_ii, int_ii, abs_i, int_i, int_b, eq_ii, eq_ss, lt_ii, le_ii, gt_ii, ge_ii, ix_0, ix_1, ix_2, len_tt, tup_n]
    refine ⟨p, 4, rfl, k2 _ _ hp, by decide, by decide, fun r4 w0 w1 => ⟨by simp [sizeLine_eq], ne_empty okl ?_⟩⟩
    simp only [Ss.wp, S.wp, E.wp, E.wpT, Es.wp, Es.wpV, Es.wpT, Oe.wpO, Oe.wpT, Wk.wp, wSeq, wRet, wRetN, wNext, wNever, wDrop, wAsg, wIfS, wFor, wPar, wPar3, wFldS, wSetI, wSetK, wDnew, wMeth, wBm, wAndV, wOrV, wNotV, wAnd, wOr, wNot, wTest, wTru, wIf, w1, w2, w3, wVar, wC, wNil, wCons, wTup, wLst, wCall, wCallK, wO0, wO1, wSl, wLc, wISeq, wIR1, wIR2, wIZip, wIStr, wIEn, wDc, DcK.emp, Wk.wp, binF, cmpF, isaD, negD, Blt.spec, Bm.spec, Bm.ty, List.getElem?_cons_zero, List.getElem?_cons_succ, Option.some.injEq, exists_eq_left', exists_eq_left, exists_and_left, List.set_cons_zero, List.set_cons_succ, asn_name, asn_tup, asns_nil, asns_name, wipeD, tru_bl, tru_int, tru_non, tru_tup, bodyEnds, List.map_cons, List.map_nil, ↓reduceIte, Bool.false_eq_true, and_true, true_and, D.str.injEq, D.int.injEq, D.ref.injEq, D.tup.injEq, D.bl.injEq, add_ii, add_ss, add_tt, mul_ii, int_ii, abs_i, int_i, int_b, eq_ii, eq_ss, lt_ii, le_ii, gt_ii, ge_ii, ix_0, ix_1, ix_2, len_tt, tup_n]
    generalize hn : r4 * (if (!ls.isEmpty) = true then (1 : Int) else 0) = n2
    have hn3 : n2 ≤ 3 := by rw [← hn]; split <;> omega
    have hn0 : 0 ≤ n2 := by rw [← hn]; split <;> omega
    have hne : 0 < n2 → ls ≠ [] := fun z q => by subst q; simp at hn; omega
    refine ⟨.inr (by split <;> exact ⟨by decide, by decide⟩), by unfold small62; omega, ?_⟩
    have zk : kvs.length ≤ 700 := by omega
    have okk : TiesOk many 2 (sortD (tiesK kvs)) := tk.ok (names_ok okr.called)
    refine forGo_pos (T := ⟨rngI 0 n2, fun _ => True⟩) (fun done ρ M3 => Keep M M3 ∧ M3 fp = some (.dX c.P c.w kvs) ∧ (∃ lvs, M3 np = some (.dX c.P c.w lvs) ∧ TKeys (ls.map nameD) many 1 lvs ∧ lvs.length ≤ done.length) ∧
      ∃ v4, ρ = [some (.ref p), some (.tup [.int s, .tup rs, .tup ls]), some (.int most), some (.int ties), v4, some (.int many), some (.ref fp), some (.ref np), v8, v9, v10]) (fun _ _ _ _ => trivial) (rngI 0 n2) [] _ M2 ⟨k2, hf, ⟨[], hn2, .nil, by simp⟩, _, rfl⟩ (fun x pre post e ρ M3 k hJ hk => ?_) fun ρ M3 hJ => ?_
    · obtain ⟨k3, hf3, ⟨lvs, hn3', tl, ll⟩, v4', rfl⟩ := hJ
      rw [List.nil_append] at ll hk
      have hpos : 0 < n2 := by
        obtain ⟨i, _, i0, i1⟩ := rng_mem (x := x) (n := n2) (by rw [e]; simp)
        omega
      refine ⟨_, rfl, ?_⟩
      simp only [Ss.wp, S.wp, E.wp, E.wpT, Es.wp, Es.wpV, Es.wpT, Oe.wpO, Oe.wpT, Wk.wp, wSeq, wRet, wRetN, wNext, wNever, wDrop, wAsg, wIfS, wFor, wPar, wPar3, wFldS, wSetI, wSetK, wDnew, wMeth, wBm, wAndV, wOrV, wNotV, wAnd, wOr, wNot, wTest, wTru, wIf, w1, w2, w3, wVar, wC, wNil, wCons, wTup, wLst, wCall, wCallK, wO0, wO1, wSl, wLc, wISeq, wIR1, wIR2, wIZip, wIStr, wIEn, wDc, DcK.emp, Wk.wp, binF, cmpF, isaD, negD, Blt.spec, Bm.spec, Bm.ty, List.getElem?_cons_zero, List.getElem?_cons_succ, Option.some.injEq, exists_eq_left', exists_eq_left, exists_and_left, List.set_cons_zero, List.set_cons_succ, asn_name, asn_tup, asns_nil, asns_name, wipeD, tru_bl, tru_int, tru_non, tru_tup, bodyEnds, List.map_cons, List.map_nil, ↓reduceIte, Bool.false_eq_true, and_true, true_and, D.str.injEq, D.int.injEq, D.ref.injEq, D.tup.injEq, D.bl.injEq, add_ii, add_ss, add_tt, mul_ii, int_ii, abs_i, int_i, int_b, eq_ii, eq_ss, lt_ii, le_ii, gt_ii, ge_ii, ix_0, ix_1, ix_2, len_tt, tup_n]
      refine .inl ⟨_, ls, rfl, .inl rfl, fun l hl => ⟨p, l, ls, rfl, Keep.new hl _ _ (k3 _ _ hp), up_same, hne hpos, by have := okl.len; omega, fun y hy => ?_⟩⟩
      obtain ⟨nm, ms, rfl, hnm, _⟩ := okl.each y hy
      have k4 : Keep M3 (up M3 l (.lst ls)) := .new hl
      generalize up M3 l (.lst ls) = M4 at k4 ⊢
      simp only [Ss.wp, S.wp, E.wp, E.wpT, Es.wp, Es.wpV, Es.wpT, Oe.wpO, Oe.wpT, Wk.wp, wSeq, wRet, wRetN, wNext, wNever, wDrop, wAsg, wIfS, wFor, wPar, wPar3, wFldS, wSetI, wSetK, wDnew, wMeth, wBm, wAndV, wOrV, wNotV, wAnd, wOr, wNot, wTest, wTru, wIf, w1, w2, w3, wVar, wC, wNil, wCons, wTup, wLst, wCall, wCallK, wO0, wO1, wSl, wLc, wISeq, wIR1, wIR2, wIZip, wIStr, wIEn, wDc, DcK.emp, Wk.wp, binF, cmpF, isaD, negD, Blt.spec, Bm.spec, Bm.ty, List.getElem?_cons_zero, List.getElem?_cons_succ, Option.some.injEq, exists_eq_left', exists_eq_left, exists_and_left, List.set_cons_zero, List.set_cons_succ, asn_name, asn_tup, asns_nil, asns_name, wipeD, tru_bl, tru_int, tru_non, tru_tup, bodyEnds, List.map_cons, List.map_nil, ↓reduceIte, Bool.false_eq_true, and_true, true_and, D.str.injEq, D.int.injEq, D.ref.injEq, D.tup.injEq, D.bl.injEq, add_ii, add_ss, add_tt, mul_ii, int_ii, abs_i, int_i, int_b, eq_ii, eq_ss, lt_ii, le_ii, gt_ii, ge_ii, ix_0, ix_1, ix_2, len_tt, tup_n]
      refine ⟨p, many, rfl, k4 _ _ (k3 _ _ hp), by omega, by omega, fun one o0 o1 => ?_⟩
      have zl : lvs.length ≤ 3 := by
        have := congrArg List.length e
        rw [List.length_append, List.length_cons, rng_len] at this
        omega
      refine ⟨by simp [sizeLine_eq], _, k4 _ _ hn3', ⟨lvs, rfl⟩, by show lvs.length < sizeLine; rw [sizeLine_eq]; omega, .dX c.P c.w (putL lvs (tkey nm [one]) (.bl true)), rfl, hk _ _ ⟨(k3.trans k4).put hnp', ?_, ⟨_, up_same, tl.put rfl (List.mem_map.mpr ⟨_, hy, rfl⟩) fun i hi => ?_, ?_⟩, _, rfl⟩⟩
      · rw [up_ne nfn]; exact k4 _ _ hf3
      · rw [List.mem_singleton.mp hi]; omega
      · have := put_len lvs (tkey nm [one]) (.bl true)
        rw [List.length_append, List.length_singleton]
        omega
    · obtain ⟨k3, hf3, ⟨lvs, hn3', tl, ll⟩, v4', rfl⟩ := hJ
      rw [List.nil_append, rng_len] at ll
      have zl : lvs.length ≤ 3 := by omega
      have okl' : TiesOk many 1 (sortD (tiesK lvs)) := tl.ok (names_ok okl.called)
      simp only [Ss.wp, S.wp, E.wp, E.wpT, Es.wp, Es.wpV, Es.wpT, Oe.wpO, Oe.wpT, Wk.wp, wSeq, wRet, wRetN, wNext, wNever, wDrop, wAsg, wIfS, wFor, wPar, wPar3, wFldS, wSetI, wSetK, wDnew, wMeth, wBm, wAndV, wOrV, wNotV, wAnd, wOr, wNot, wTest, wTru, wIf, w1, w2, w3, wVar, wC, wNil, wCons, wTup, wLst, wCall, wCallK, wO0, wO1, wSl, wLc, wISeq, wIR1, wIR2, wIZip, wIStr, wIEn, wDc, DcK.emp, Wk.wp, binF, cmpF, isaD, negD, Blt.spec, Bm.spec, Bm.ty, List.getElem?_cons_zero, List.getElem?_cons_succ, Option.some.injEq, exists_eq_left', exists_eq_left, exists_and_left, List.set_cons_zero, List.set_cons_succ, asn_name, asn_tup, asns_nil, asns_name, wipeD, tru_bl, tru_int, tru_non, tru_tup, bodyEnds, List.map_cons, List.map_nil, ↓reduceIte, Bool.false_eq_true, and_true, true_and, D.str.injEq, D.int.injEq, D.ref.injEq, D.tup.injEq, D.bl.injEq, add_ii, add_ss, add_tt, mul_ii, int_ii, abs_i, int_i, int_b, eq_ii, eq_ss, lt_ii, le_ii, gt_ii, ge_ii, ix_0, ix_1, ix_2, len_tt, tup_n]
      refine sortX_ties tk (by rw [sizeLine_eq]; omega) hf3 fun a1 ha1 => ?_
      simp only [Ss.wp, S.wp, E.wp, E.wpT, Es.wp, Es.wpV, Es.wpT, Oe.wpO, Oe.wpT, Wk.wp, wSeq, wRet, wRetN, wNext, wNever, wDrop, wAsg, wIfS, wFor, wPar, wPar3, wFldS, wSetI, wSetK, wDnew, wMeth, wBm, wAndV, wOrV, wNotV, wAnd, wOr, wNot, wTest, wTru, wIf, w1, w2, w3, wVar, wC, wNil, wCons, wTup, wLst, wCall, wCallK, wO0, wO1, wSl, wLc, wISeq, wIR1, wIR2, wIZip, wIStr, wIEn, wDc, DcK.emp, Wk.wp, binF, cmpF, isaD, negD, Blt.spec, Bm.spec, Bm.ty, List.getElem?_cons_zero, List.getElem?_cons_succ, Option.some.injEq, exists_eq_left', exists_eq_left, exists_and_left, List.set_cons_zero, List.set_cons_succ, asn_name, asn_tup, asns_nil, asns_name, wipeD, tru_bl, tru_int, tru_non, tru_tup, bodyEnds, List.map_cons, List.map_nil, ↓reduceIte, Bool.false_eq_true, and_true, true_and, D.str.injEq, D.int.injEq, D.ref.injEq, D.tup.injEq, D.bl.injEq, add_ii, add_ss, add_tt, mul_ii, int_ii, abs_i, int_i, int_b, eq_ii, eq_ss, lt_ii, le_ii, gt_ii, ge_ii, ix_0, ix_1, ix_2, len_tt, tup_n]
      refine sortX_ties tl (by rw [sizeLine_eq]; omega) (Keep.new ha1 _ _ hn3') fun a2 ha2 => ?_
      simp only [Ss.wp, S.wp, E.wp, E.wpT, Es.wp, Es.wpV, Es.wpT, Oe.wpO, Oe.wpT, Wk.wp, wSeq, wRet, wRetN, wNext, wNever, wDrop, wAsg, wIfS, wFor, wPar, wPar3, wFldS, wSetI, wSetK, wDnew, wMeth, wBm, wAndV, wOrV, wNotV, wAnd, wOr, wNot, wTest, wTru, wIf, w1, w2, w3, wVar, wC, wNil, wCons, wTup, wLst, wCall, wCallK, wO0, wO1, wSl, wLc, wISeq, wIR1, wIR2, wIZip, wIStr, wIEn, wDc, DcK.emp, Wk.wp, binF, cmpF, isaD, negD, Blt.spec, Bm.spec, Bm.ty, List.getElem?_cons_zero, List.getElem?_cons_succ, Option.some.injEq, exists_eq_left', exists_eq_left, exists_and_left, List.set_cons_zero, List.set_cons_succ, asn_name, asn_tup, asns_nil, asns_name, wipeD, tru_bl, tru_int, tru_non, tru_tup, bodyEnds, List.map_cons, List.map_nil, ↓reduceIte, Bool.false_eq_true, and_true, true_and, D.str.injEq, D.int.injEq, D.ref.injEq, D.tup.injEq, D.bl.injEq, add_ii, add_ss, add_tt, mul_ii, int_ii, abs_i, int_i, int_b, eq_ii, eq_ss, lt_ii, le_ii, gt_ii, ge_ii, ix_0, ix_1, ix_2, len_tt, tup_n]
      have e1 : (sortD (tiesK kvs)).length = kvs.length := by rw [len_sort]; unfold tiesK; rw [List.length_map]
      have e2 : (sortD (tiesK lvs)).length = lvs.length := by rw [len_sort]; unfold tiesK; rw [List.length_map]
      refine ⟨by simp [sizeLine_eq], h _ many _ _ (k3.trans ((Keep.new ha1).trans (.new ha2))) n0 (by omega) ⟨⟨n0, by omega, by omega, by omega, okk, okl'⟩, fun x hx => ?_, fun x hx => ?_⟩ (by rw [e1]; omega) (by omega)⟩
      · obtain ⟨nm, is, e, _, hm, _⟩ := tk.tie x (mem_sort.mp hx)
        exact ⟨nm, is, e, hm⟩
      · obtain ⟨nm, is, e, _, hm, _⟩ := tl.tie x (mem_sort.mp hx)
        exact ⟨nm, is, e, hm⟩
end DL

set_option Elab.async false
set_option linter.all false
set_option maxRecDepth 100000
set_option maxHeartbeats 4000000
/-! DLx: defs linked to one another; a pot seen as a list; facts of classes. -/
namespace DL
open PySem PySem.Spec PyProof.Rows L2
section
variable {P : Program} {w : World} {K : PySem.W.Frag} {mg : Str → Option Value} {base : Heap} {x qual : Str} {params : Arguments} {body : List Stmt} {scope : Scope} {dvs : List V} {kws : List (Str × V)} {f : Addr} {fd : FuncData} {ps : List Str} {k : Nat} {S : Spec}
/-- a global's promise at a depth -/
def Pr (P : Program) (w : World) (K : PySem.W.Frag) (mg : Str → Option Value) (base : Heap) (k : Nat) (x : Str) (n : Nat) (ks : List Str) (S : Spec) : Prop := ∀ A, Room k A → Callee ⟨P, w, K, mg, base, A⟩ x n ks S
/-- the same where no repr is under way -/
def PrG (P : Program) (w : World) (K : PySem.W.Frag) (mg : Str → Option Value) (base : Heap) (k : Nat) (x : Str) (n : Nat) (ks : List Str) (S : Spec) : Prop := ∀ A, Room k A → A.guards = some [] → Callee ⟨P, w, K, mg, base, A⟩ x n ks S
/-- a class's own method at a depth -/
def PrO (P : Program) (w : World) (K : PySem.W.Frag) (mg : Str → Option Value) (base : Heap) (k : Nat) (C : Addr) (m : Str) (S : Spec) : Prop := ∀ A, Room k A → OwnM ⟨P, w, K, mg, base, A⟩ C m S
theorem kbn_of (F : FunD K x qual params body scope [] kws f fd) (n : Nat) (ks : List Str)
    (h : ∀ (kV doc pm : Value) (an : Option Addr) (cdv ct : Value) (us ws : List Value), us.length = n → ws.length = ks.length → bindArgs (PySem.W.fnOf x qual params body scope .none kV doc pm an cdv ct) ⟨us, ks.zip ws⟩ = pure (ps.zip (us ++ ws))) : KBn K fd ps n ks (fun us ws => us ++ ws) (fun vs zs => vs ++ zs) := by
  obtain ⟨oc, od, dV, kV, doc, pm, an, cdv, ct, osl, rfl, lk, hcd, hD, hK⟩ := F.ex
  rcases hD with ⟨_, rfl⟩ | ⟨e, _⟩
  · exact ⟨fun s us ws _ l1 l2 => .of_eq (h kV doc pm an cdv ct us ws l1 l2), fun r1 r2 => r1.append r2⟩
  · exact absurd rfl e
theorem Pr.fn (F : FnOk P w K mg base CX0 k f fd ps (spD K S)) (hm : mg x = some (.ref f)) (hk : PySem.W.keepIn K (.ref f) = true) (hb : Binds K fd ps []) (n : Nat) : Pr P w K mg base k x n [] S := fun A hr => Callee.fn (c := ⟨P, w, K, mg, base, A⟩) F hr hm hk hb
theorem Pr.fnG (F : FnG P w K mg base k f fd ps S) (hm : mg x = some (.ref f)) (hk : PySem.W.keepIn K (.ref f) = true) (hb : Binds K fd ps []) (n : Nat) : PrG P w K mg base k x n [] S := fun A hr hg => Callee.fnG (c := ⟨P, w, K, mg, base, A⟩) F hr hg hm hk hb
theorem Pr.fnN {n : Nat} {ks : List Str} (F : FnOk P w K mg base CX0 k f fd ps (spD K S)) (hm : mg x = some (.ref f)) (hk : PySem.W.keepIn K (.ref f) = true) (hb : KBn K fd ps n ks (fun us ws => us ++ ws) (fun vs zs => vs ++ zs)) : Pr P w K mg base k x n ks S := fun A hr => by
  refine ⟨f, hm, hk, ?_⟩
  rintro X e hc pins s σ H Q us ws vs zs I r rz hl hz h
  cases e
  exact run_fnN (X := X) F hr hb pass0 I r rz hl hz h
theorem Pr.make {n : Nat} {ks : List Str} {C : Addr} (Mk' : Mk K C f) (F : FnOk P w K mg base CX0 k f fd ps (spD K S)) (hm : mg x = some (.ref C)) (hb : KBn K fd ps (n + 1) ks (fun us ws => us ++ ws) (fun vs zs => vs ++ zs)) : Pr P w K mg base (k + 1) x n ks (makeS C S id) := fun A hr =>
  Callee.makeK (c := ⟨P, w, K, mg, base, A⟩) Mk' F hr hm hb fun H ds vs zs l1 l2 r z => by
    show Reps K H (.ref z :: ds) (.ref z :: vs ++ zs)
    rw [List.cons_append]
    exact .cons rfl r
/-- keywords in another order -/
def perm {α : Type} (ix : List Nat) (xs : List α) : List α := ix.filterMap fun i => xs[i]?
def permS (ix : List Nat) (S : Spec) : Spec := fun ds M Q => S (perm ix ds) M Q
theorem vals_get : ∀ {vs : List V} {us : List Value} (i : Nat), Vals vs us → (vs[i]? = none ∧ us[i]? = none) ∨ ∃ v u, vs[i]? = some v ∧ us[i]? = some u ∧ RelV v u
  | _, _, i, .nil => .inl ⟨by simp, by simp⟩
  | _, _, 0, .cons h t => .inr ⟨_, _, rfl, rfl, h⟩
  | _, _, i + 1, .cons h t => by simpa using vals_get i t
theorem vals_perm {vs : List V} {us : List Value} (r : Vals vs us) : ∀ ix : List Nat, Vals (perm ix vs) (perm ix us)
  | [] => .nil
  | i :: ix => by
    unfold perm
    rw [List.filterMap_cons, List.filterMap_cons]
    rcases vals_get i r with ⟨e1, e2⟩ | ⟨v, u, e1, e2, h⟩
    · rw [e1, e2]; exact vals_perm r ix
    · rw [e1, e2]; exact .cons h (vals_perm r ix)
theorem reps_perm {H : Hp} {ds : List D} {vs : List V} (r : Reps K H ds vs) : ∀ ix : List Nat, Reps K H (perm ix ds) (perm ix vs)
  | [] => .nil
  | i :: ix => by
    unfold perm
    rw [List.filterMap_cons, List.filterMap_cons]
    cases e : ds[i]? with
    | none =>
      have e2 : vs[i]? = none := by
        rw [List.getElem?_eq_none_iff] at e ⊢
        rw [← r.length]; exact e
      rw [e2]; exact reps_perm r ix
    | some d =>
      obtain ⟨v, e2, rv⟩ := r.get e
      rw [e2]; exact .cons rv (reps_perm r ix)
theorem kbn_perm (F : FunD K x qual params body scope [] kws f fd) (n : Nat) (ks : List Str) (ix : List Nat)
    (h : ∀ (kV doc pm : Value) (an : Option Addr) (cdv ct : Value) (us ws : List Value), us.length = n → ws.length = ks.length → bindArgs (PySem.W.fnOf x qual params body scope .none kV doc pm an cdv ct) ⟨us, ks.zip ws⟩ = pure (ps.zip (perm ix (us ++ ws)))) : KBn K fd ps n ks (fun us ws => perm ix (us ++ ws)) (fun vs zs => perm ix (vs ++ zs)) := by
  obtain ⟨oc, od, dV, kV, doc, pm, an, cdv, ct, osl, rfl, lk, hcd, hD, hK⟩ := F.ex
  rcases hD with ⟨_, rfl⟩ | ⟨e, _⟩
  · exact ⟨fun s us ws _ l1 l2 => .of_eq (h kV doc pm an cdv ct us ws l1 l2), fun r1 r2 => vals_perm (r1.append r2) ix⟩
  · exact absurd rfl e
theorem Pr.fnP {n : Nat} {ks : List Str} {ix : List Nat} (F : FnOk P w K mg base CX0 k f fd ps (spD K S)) (hm : mg x = some (.ref f)) (hk : PySem.W.keepIn K (.ref f) = true) (hb : KBn K fd ps n ks (fun us ws => perm ix (us ++ ws)) (fun vs zs => perm ix (vs ++ zs))) : Pr P w K mg base k x n ks (permS ix S) := fun A hr => by
  refine ⟨f, hm, hk, ?_⟩
  rintro X e hc pins s σ H Q us ws vs zs I r rz hl hz h
  cases e
  obtain ⟨ds, M, F', Q0, rd, m, fr, h, go⟩ := h
  exact run_fnN (X := X) F hr hb pass0 I r rz hl hz ⟨_, M, F', Q0, reps_perm rd ix, m, fr, h, go⟩
/-- a global that is data -/
def GlD (K : PySem.W.Frag) (mg : Str → Option Value) (x : Str) (d : D) : Prop := ∃ u v, mg x = some u ∧ RelV v u ∧ ∀ H, Rep K H d v
theorem gld_int {i : Int} (h : ∃ t, mg x = some (.int i t)) : GlD K mg x (.int i) := by
  obtain ⟨t, e⟩ := h
  exact ⟨_, .int i, e, ⟨t, rfl⟩, fun H => rfl⟩
theorem gld_str {z : Str} (h : ∃ t, mg x = some (.str z t)) : GlD K mg x (.str z) := by
  obtain ⟨t, e⟩ := h
  exact ⟨_, .str z, e, ⟨t, rfl⟩, fun H => rfl⟩
/-- a class's own method -/
theorem own_of {C : Addr} {m : Str} (F : FnOk P w K mg base CX0 k f fd ps (spD K S)) (hb : Binds K fd ps []) (hM : Meth K C m f) : PrO P w K mg base (k + 1) C m S := fun A hr => ⟨k, f, fd, ps, F, hr, hb, hM.1, hM.2⟩
end
/-! ### a pot is a list of two numbers -/
theorem pot_in {K : PySem.W.Frag} {H : Hp} {M : Mp} {p : Addr} {Fr : Addr → Prop} (m : RepM K H M) (hp : M p = some .pot) (fr : FrOk Fr H M) : ∃ g n, PotOk g n ∧ RepM K H (up M p (.lst [.int g, .int n])) ∧ FrOk Fr H (up M p (.lst [.int g, .int n])) := by
  obtain ⟨g, n, h1, h2⟩ := m p _ hp
  refine ⟨g, n, h2, fun a o e => ?_, fun a ha => ?_⟩
  · by_cases z : a = p
    · subst z
      rw [up_same] at e
      cases e
      exact ⟨_, h1, .cons rfl (.cons rfl .nil)⟩
    · rw [up_ne z] at e
      exact m a o e
  · have ne : a ≠ p := fun z => by have q := (fr a ha).2; rw [z, hp] at q; cases q
    rw [up_ne ne]
    exact fr a ha
theorem pot_out {K : PySem.W.Frag} {H H' : Hp} {M : Mp} {p : Addr} {Fr : Addr → Prop} {g n : Int} (ok : PotOk g n) (m : RepM K H' (up M p (.lst [.int g, .int n]))) (fr : Frm Fr H H' (up M p (.lst [.int g, .int n]))) : RepM K H' (up M p .pot) ∧ Frm Fr H H' (up M p .pot) := by
  refine ⟨fun a o e => ?_, fun a ha => ?_⟩
  · by_cases z : a = p
    · subst z
      rw [up_same] at e
      cases e
      obtain ⟨vs, h1, h2⟩ := m a _ up_same
      unfold Reps at h2
      obtain ⟨v, r, rfl, hv, h2⟩ := h2
      unfold Reps at h2
      obtain ⟨v', r, rfl, hv', h2⟩ := h2
      unfold Reps at h2
      subst h2
      cases hv
      cases hv'
      exact ⟨g, n, h1, ok⟩
    · rw [up_ne z] at e
      exact m a o (by rw [up_ne z]; exact e)
  · have h := fr a ha
    by_cases z : a = p
    · subst z
      rw [up_same] at h
      cases h.2
    · rw [up_ne z] at h ⊢
      exact h
theorem up_up {M : Mp} {p : Addr} {o o' : MO} : up (up M p o) p o' = up M p o' := by
  funext a
  unfold up
  by_cases h : a = p <;> simp [h]
theorem up_eq {M : Mp} {p : Addr} {o : MO} (h : M p = some o) : up M p o = M := by
  funext a
  unfold up
  by_cases e : a = p
  · subst e; simp [h]
  · simp [e]
/-! ### facts of the written part -/
def clsB (K : PySem.W.Frag) (C : Addr) : Bool := He.eqO (PySem.W.findIn K (.ref C) "__class__") (some (some (.builtin "object.__class__"))) && (He.eqO (PySem.W.specialIn K (.builtin "object.__class__") "__get__") (some (some (.builtin "getset_descriptor.__get__"))) &&
  (decide (PySem.W.takesIn K (.builtin "object.__class__") = some true) && (decide (PySem.W.mroIn K C (.type "object") = some true) && (kindNames.all fun k => decide (PySem.W.kitOne K (.type k) (.ref C) = some false)))))
def neB (K : PySem.W.Frag) (C : Addr) : Bool := He.eqO (PySem.W.findIn K (.ref C) "__ne__") (some (some (.builtin "object.__ne__"))) && decide (PySem.W.subIn K (.ref C) (.type "object") = some true)
def noLst (K : PySem.W.Frag) : Bool := K.all fun q => match q.2.cls with | .type c => !(c == "list") | _ => true
theorem clsB_ok {K : PySem.W.Frag} {C : Addr} (hc : Cls K C) (h : clsB K C = true) : ClsF K C := by
  obtain ⟨h1, h⟩ := band h
  obtain ⟨h2, h⟩ := band h
  obtain ⟨h3, h⟩ := band h
  obtain ⟨h4, h5⟩ := band h
  exact ⟨hc, He.eqO_ok h1, He.eqO_ok h2, of_decide_eq_true h3, of_decide_eq_true h4, fun k hk => of_decide_eq_true (List.all_eq_true.mp h5 k hk)⟩
theorem neB_ok {k : Co} {C : Addr} (h : neB k.K C = true) : NeM k C := by
  obtain ⟨h1, h2⟩ := band h
  exact ⟨He.eqO_ok h1, of_decide_eq_true h2⟩
theorem noLst_ok {K : PySem.W.Frag} {h : Heap} {a : Addr} {o : Obj} (kin : K.In h) (hn : noLst K = true) (ha : h.get? a = some o) (ho : o.cls = .type "list") : K.lookup a = none := by
  cases e : K.lookup a with
  | none => rfl
  | some u =>
    have e1 := kin a u e
    rw [ha] at e1
    cases e1
    have e2 := List.all_eq_true.mp hn _ (He.lookup_mem e)
    simp only [ho] at e2
    simp at e2
/-- a law's end over a head by facts, for defs that know that no repr is under way -/
theorem walk_ofG {l : PySem.W.OpenLaw} {n k : Nat} {q : Program} {loose : List Str} {XP : (Str → Option Value) → Heap → Prop} {YP : World → Heap → Prop} {d : DefRec} {x : Str}
    (hn : l.most = some n) (hn2 : n ≤ sizeLine) (hdf : d.params.defaults = []) (hr : Room k callerA)
    (F : ∀ (w : World) (mg : Str → Option Value) (fa : Addr) (h : Heap), YP w h → h.Ns mainGlobals mg → mg d.name = some (.ref fa) →
      ∃ (K : PySem.W.Frag) (fd : FuncData) (S : Spec), K.In h ∧ noLst K = true ∧ (∀ (s : Shared) (u : Value), BindsTo s fd ⟨[u], []⟩ [(x, u)]) ∧
        (∀ (a : Addr) (ns : List Int) (M : Mp), ns.length ≤ n → M a = some (.scr ns) → S [.ref a] M fun d _ => d = .bl true) ∧
        ∀ base : Heap, K.In base → base.Ns mainGlobals mg → base.NoDigits → FnG l.prog w K mg base k fa fd [x] S) :
    PySem.W.WalkO q loose XP YP l.row.toRowW d [] (fun f vs => PySem.call f vs) := by
  refine Att.attach_call hn hdf fun w s₀ s₁ mg mb fa o pm cd doc a vs ns G Y ho hd hcd hmg hobj hints hlen hg => ?_
  obtain ⟨K, fd, S, KX, hnl, hb, hS, hF⟩ := F w mg fa _ Y G.T.g hmg
  exact law_end KX G.T.g G.T.b G.T.builtins G.T.nolimit G.T.nodigits hg hobj hints (Nat.le_trans hlen hn2) hr (noLst_ok KX hnl hobj rfl) hF hb fun b M hM => hS b ns M hlen hM
end DL

set_option Elab.async false
set_option linter.all false
set_option maxRecDepth 100000
set_option maxHeartbeats 4000000
/-! U1: each def's promise by its reading. -/
namespace DL
open PySem L2
def S_House_K1_rules_lists (c : Cs) : Spec := makeS c.House (S_House_init c) id
theorem szs_0 {d : D} {ds : List D} (h : szs (d :: ds)) : sz d := by unfold szs at h; exact h.1
theorem szs_1 {a d : D} {ds : List D} (h : szs (a :: d :: ds)) : sz d := by unfold szs at h; exact szs_0 h.2
theorem szs_2 {a b d : D} {ds : List D} (h : szs (a :: b :: d :: ds)) : sz d := by unfold szs at h; exact szs_1 h.2
theorem szs_3 {a b c d : D} {ds : List D} (h : szs (a :: b :: c :: d :: ds)) : sz d := by unfold szs at h; exact szs_2 h.2
theorem use_is_whole (c : Cs) (ds : List D) (M : Mp) (Q : DQ) (z : szs ds) (zm : szM M) (h : S_is_whole c ds M Q) : (ir_is_whole c).wp (bodyEnds Q) (startD N_is_whole ds) M := by
  obtain ⟨d, lo, hi, rfl, hk, h⟩ := h
  exact wp_is_whole c hk h
theorem use_are_whole (c : Cs) (ds : List D) (M : Mp) (Q : DQ) (z : szs ds) (zm : szM M) (h : S_are_whole c ds M Q) : (ir_are_whole c).wp (bodyEnds Q) (startD N_are_whole ds) M := by
  obtain ⟨d, lo, hi, rfl, hk, h⟩ := h
  exact wp_are_whole c (szs_0 z) hk h
theorem use_is_name (c : Cs) (ds : List D) (M : Mp) (Q : DQ) (z : szs ds) (zm : szM M) (h : S_is_name c ds M Q) : (ir_is_name c).wp (bodyEnds Q) (startD N_is_name ds) M := by
  obtain ⟨d, rfl, hk, hl, h⟩ := h
  exact wp_is_name c hk hl h
theorem use_are_rising (c : Cs) (ds : List D) (M : Mp) (Q : DQ) (z : szs ds) (zm : szM M) (h : S_are_rising c ds M Q) : (ir_are_rising c).wp (bodyEnds Q) (startD N_are_rising ds) M := by
  obtain ⟨d, xs, rfl, hs, hc, h⟩ := h
  refine wp_are_rising c hs ?_ hc h
  rcases hs with rfl | ⟨a, rfl, ha⟩
  · exact (sz_tup (szs_0 z)).1
  · exact (zm a xs ha).1
theorem use_are_pairs (c : Cs) (ds : List D) (M : Mp) (Q : DQ) (z : szs ds) (zm : szM M) (h : S_are_pairs c ds M Q) : (ir_are_pairs c).wp (bodyEnds Q) (startD N_are_pairs ds) M := by
  obtain ⟨d, lo, hi, rfl, hk, h⟩ := h
  exact wp_are_pairs c (szs_0 z) hk h
theorem use_are_called (c : Cs) (ds : List D) (M : Mp) (Q : DQ) (z : szs ds) (zm : szM M) (h : S_are_called c ds M Q) : (ir_are_called c).wp (bodyEnds Q) (startD N_are_called ds) M := by
  obtain ⟨xs, most, rfl, hl, hc, hr, h⟩ := h
  exact wp_are_called c (sz_tup (szs_0 z)).1 hl hc hr h
theorem use_are_rules (c : Cs) (ds : List D) (M : Mp) (Q : DQ) (z : szs ds) (zm : szM M) (h : S_are_rules c ds M Q) : (ir_are_rules c).wp (bodyEnds Q) (startD N_are_rules ds) M := by
  obtain ⟨xs, many, rfl, ok, h⟩ := h
  exact wp_are_rules c ok h
theorem use_are_lists (c : Cs) (ds : List D) (M : Mp) (Q : DQ) (z : szs ds) (zm : szM M) (h : S_are_lists c ds M Q) : (ir_are_lists c).wp (bodyEnds Q) (startD N_are_lists ds) M := by
  obtain ⟨xs, many, rfl, ok, h⟩ := h
  exact wp_are_lists c ok h
theorem use_House_init (c : Cs) (ds : List D) (M : Mp) (Q : DQ) (z : szs ds) (zm : szM M) (h : S_House_init c ds M Q) : (ir_House_init c).wp (bodyEnds Q) (startD N_House_init ds) M := by
  obtain ⟨p, many, rs, ls, rfl, hp, m1, m2, hr, hl, h⟩ := h
  exact wp_House_init c (szs_2 z) (szs_3 z) hp m1 m2 hr hl h
theorem use_are_ties (c : Cs) (ds : List D) (M : Mp) (Q : DQ) (z : szs ds) (zm : szM M) (h : S_are_ties c ds M Q) : (ir_are_ties c).wp (bodyEnds Q) (startD N_are_ties ds) M := by
  obtain ⟨xs, knots, n, most, rfl, hl, ok, h⟩ := h
  exact wp_are_ties c hl ok (sz_tup (szs_0 z)).1 h
theorem use_Net_init (c : Cs) (ds : List D) (M : Mp) (Q : DQ) (z : szs ds) (zm : szM M) (h : S_Net_init c ds M Q) : (ir_Net_init c).wp (bodyEnds Q) (startD N_Net_init ds) M := by
  obtain ⟨p, knots, ls, bs, rfl, hp, ok, h⟩ := h
  exact wp_Net_init c hp ok h
theorem use_Net_len (c : Cs) (ds : List D) (M : Mp) (Q : DQ) (z : szs ds) (zm : szM M) (h : S_Net_len_ c ds M Q) : (ir_Net_len c).wp (bodyEnds Q) (startD N_Net_len ds) M := by
  obtain ⟨p, knots, l, b, rfl, hp, k0, k1, h⟩ := h
  exact wp_Net_len c hp k0 k1 h
theorem use_Net_eq (c : Cs) (ds : List D) (M : Mp) (Q : DQ) (z : szs ds) (zm : szM M) (h : S_Net_eq c ds M Q) : (ir_Net_eq c).wp (bodyEnds Q) (startD N_Net_eq ds) M := by
  obtain ⟨a, b, knots, ls, bs, rfl, ha, hb, ok, h⟩ := h
  exact wp_Net_eq c ha hb ok h
theorem use_is_net_of (c : Cs) (ds : List D) (M : Mp) (Q : DQ) (z : szs ds) (zm : szM M) (h : S_is_net_of c ds M Q) : (ir_is_net_of c).wp (bodyEnds Q) (startD N_is_net_of ds) M := by
  obtain ⟨hh, t, m, p, q, k, many, rs, ls, ks, bs, rfl, h1, h2, hr, hl, zk, zb, hk, hb, h⟩ := h
  exact wp_is_net_of c zk zb h1 h2 hr hl hk hb h
theorem use_sets_of (c : Cs) (ds : List D) (M : Mp) (Q : DQ) (z : szs ds) (zm : szM M) (h : S_sets_of c ds M Q) : (ir_sets_of c).wp (bodyEnds Q) (startD N_sets_of ds) M := by
  obtain ⟨hh, n, r, l, p, q, rfl, hm, h0, h4, h⟩ := h
  exact wp_sets_of c hm h0 h4 h
theorem use_are_laid (c : Cs) (ds : List D) (M : Mp) (Q : DQ) (z : szs ds) (zm : szM M) (h : S_are_laid c ds M Q) : (ir_are_laid c).wp (bodyEnds Q) (startD N_are_laid ds) M := by
  obtain ⟨prs, one, other, rfl, hp, h1, h2, h⟩ := h
  exact wp_are_laid c (sz_tup (szs_1 z)).1 (sz_tup (szs_2 z)).1 hp h1 h2 h
theorem use_sets_net (c : Cs) (ds : List D) (M : Mp) (Q : DQ) (z : szs ds) (zm : szM M) (h : S_sets_net c ds M Q) : (ir_sets_net c).wp (bodyEnds Q) (startD N_sets_net ds) M := by
  obtain ⟨hh, n, rs, ls, p, q, rfl, hm, h0, h4, hr, hl, ok, h⟩ := h
  exact wp_sets_net c hm h0 h4 hr hl ok h
theorem use_l_of (c : Cs) (ds : List D) (M : Mp) (Q : DQ) (z : szs ds) (zm : szM M) (h : S_l_of c ds M Q) : (ir_l_of c).wp (bodyEnds Q) (startD N_l_of ds) M := by
  obtain ⟨p, q, xs, rfl, hp, hq, hx, hz, h⟩ := h
  exact wp_l_of c hp hq hx hz h
theorem use_l_all_pairs (c : Cs) (ds : List D) (M : Mp) (Q : DQ) (z : szs ds) (zm : szM M) (h : S_l_all_pairs c ds M Q) : (ir_l_all_pairs c).wp (bodyEnds Q) (startD N_l_all_pairs ds) M := by
  obtain ⟨s, rfl, h0, h4, h⟩ := h
  exact wp_l_all_pairs c h0 h4 h
theorem use_l_pairs (c : Cs) (ds : List D) (M : Mp) (Q : DQ) (z : szs ds) (zm : szM M) (h : S_l_pairs c ds M Q) : (ir_l_pairs c).wp (bodyEnds Q) (startD N_l_pairs ds) M := by
  obtain ⟨p, s, rfl, hp, h0, h4, h⟩ := h
  exact wp_l_pairs c hp h0 h4 h
theorem use_l_names (c : Cs) (ds : List D) (M : Mp) (Q : DQ) (z : szs ds) (zm : szM M) (h : S_l_names c ds M Q) : (ir_l_names c).wp (bodyEnds Q) (startD N_l_names ds) M := by
  obtain ⟨p, many, rfl, hp, hm, h⟩ := h
  exact wp_l_names c hp hm h
theorem use_l_home (c : Cs) (ds : List D) (M : Mp) (Q : DQ) (z : szs ds) (zm : szM M) (h : S_l_home c ds M Q) : (ir_l_home c).wp (bodyEnds Q) (startD N_l_home ds) M := by
  obtain ⟨p, most, rfl, hp, h1, h4, h⟩ := h
  exact wp_l_home c hp h1 h4 h
theorem use_l_sets (c : Cs) (ds : List D) (M : Mp) (Q : DQ) (z : szs ds) (zm : szM M) (h : S_l_sets c ds M Q) : (ir_l_sets c).wp (bodyEnds Q) (startD N_l_sets ds) M := by
  obtain ⟨n, rfl, h0, h4, h⟩ := h
  exact wp_l_sets c h0 h4 h
theorem use_l_beside (c : Cs) (ds : List D) (M : Mp) (Q : DQ) (z : szs ds) (zm : szM M) (h : S_l_beside c ds M Q) : (ir_l_beside c).wp (bodyEnds Q) (startD N_l_beside ds) M := by
  obtain ⟨prs, one, other, rfl, hp, h1, h2, h⟩ := h
  exact wp_l_beside c (sz_tup (szs_1 z)).1 (sz_tup (szs_2 z)).1 hp h1 h2 h
theorem use_l_mesh (c : Cs) (ds : List D) (M : Mp) (Q : DQ) (z : szs ds) (zm : szM M) (h : S_l_mesh c ds M Q) : (ir_l_mesh c).wp (bodyEnds Q) (startD N_l_mesh ds) M := by
  obtain ⟨p, s, rs, ls, most, ties, rfl, hp, okr, okl, r1, m0, m1, t0, t1, h⟩ := h
  exact wp_l_mesh c hp okr okl r1 m0 m1 t0 t1 h
/-! ### those that touch the pot itself -/
theorem useP_l_take (c : Cs) {K : PySem.W.Frag} (H : Hp) (ds : List D) (M : Mp) (Fr : Addr → Prop) (Q : DQ) (z : szs ds) (zm : szM M) (m : RepM K H M) (fr : FrOk Fr H M) (h : S_l_take c ds M Q) :
    ∃ M1 Q1, RepM K H M1 ∧ FrOk Fr H M1 ∧ (ir_l_take c).wp (bodyEnds Q1) (startD N_l_take ds) M1 ∧ ∀ d M' H', Q1 d M' → RepM K H' M' → Frm Fr H H' M' → ∃ M2, RepM K H' M2 ∧ Frm Fr H H' M2 ∧ Q d M2 := by
  obtain ⟨p, upto, rfl, hp, h0, h1, h⟩ := h
  obtain ⟨g, n, ok, m1, fr1⟩ := pot_in m hp fr
  refine ⟨_, fun d M' => ∃ r g' m', d = .int r ∧ 0 ≤ r ∧ r < upto ∧ PotOk g' m' ∧ M' = up M p (.lst [.int g', .int m']), m1, fr1, wp_l_take c h0 h1 ok up_same fun r g' m' r0 r1 ok' => ⟨r, g', m', rfl, r0, r1, ok', up_up⟩, fun d M' H' q r f => ?_⟩
  obtain ⟨v, g', m', rfl, r0, r1, ok', rfl⟩ := q
  obtain ⟨a1, a2⟩ := pot_out ok' r f
  rw [up_eq hp] at a1 a2
  exact ⟨M, a1, a2, h v r0 r1⟩
theorem useP_l_pot (c : Cs) {K : PySem.W.Frag} (H : Hp) (ds : List D) (M : Mp) (Fr : Addr → Prop) (Q : DQ) (z : szs ds) (zm : szM M) (m : RepM K H M) (fr : FrOk Fr H M) (h : S_l_pot c ds M Q) :
    ∃ M1 Q1, RepM K H M1 ∧ FrOk Fr H M1 ∧ (ir_l_pot c).wp (bodyEnds Q1) (startD N_l_pot ds) M1 ∧ ∀ d M' H', Q1 d M' → RepM K H' M' → Frm Fr H H' M' → ∃ M2, RepM K H' M2 ∧ Frm Fr H H' M2 ∧ Q d M2 := by
  obtain ⟨a, ns, k, rfl, ha, hz, h0, h1, h⟩ := h
  refine ⟨M, fun d M' => ∃ p g' m', d = .ref p ∧ M p = none ∧ PotOk g' m' ∧ M' = up M p (.lst [.int g', .int m']), m, fr, wp_l_pot c ha hz h0 h1 fun p g' m' hp ok' => ⟨p, g', m', rfl, hp, ok', rfl⟩, fun d M' H' q r f => ?_⟩
  obtain ⟨p, g', m', rfl, hp, ok', rfl⟩ := q
  obtain ⟨a1, a2⟩ := pot_out ok' r f
  exact ⟨_, a1, a2, h _ p (.new hp) hp up_same⟩
end DL

set_option Elab.async false
set_option linter.all false
set_option maxRecDepth 100000
set_option maxHeartbeats 4000000
/-! V41: the law k41. -/
namespace DL
open PySem L2
/-- x in ds, by values -/
def memB (x : D) (ds : List D) : Bool := (pys ds).any fun z => PyData.eqv z (py x)
theorem in_plain {x : D} {ds : List D} {M : Mp} {Q : DQ} (h1 : plain x = true) (h2 : lay x) (h3 : (py x).depth ≤ 64) (hs : ∀ d ∈ ds, plain d = true ∧ lay d) (q : Q (.bl (memB x ds)) M) : inD false x (.tup ds) M Q :=
  .inl ⟨py x, ds, pys ds, .plain h1, .inl rfl, .plain (plains_of fun d hd => (hs d hd).1), shaped_py h2 h3, lays_of fun d hd => (hs d hd).2, q⟩
theorem in_tie {nm : Str} {is : List Int} {knots : Int} {n : Nat} {ds : List D} {M : Mp} {Q : DQ} (hn : nameS nm = true) (ok : TiesOk knots n ds) (q : Q (.bl (memB (tie nm is) ds)) M) : inD false (tie nm is) (.tup ds) M Q :=
  in_plain (plain_tie nm is) (lay_tie hn) (Nat.le_trans (dep_tie nm is) (by decide)) (fun d hd => ⟨(ok.good d hd).1, (ok.good d hd).2.1⟩) q
def atN (xs : List D) (i : Int) : D := xs.getD i.toNat .non
def hitK (xs ks2 : List D) : D → Bool
  | .tup [.str nm, .int i, .int j] => memB (.tup [.str nm, atN xs i, atN xs j]) ks2
  | _ => false
def hitB (xs bs2 : List D) : D → Bool
  | .tup [.str nm, .int i] => memB (.tup [.str nm, atN xs i]) bs2
  | _ => false
/-- whether a thing leads a net into another one -/
def leadB (n1 : Int) (ks bs : List D) (n2 : Int) (ks2 bs2 : List D) (d : D) : Bool := areWh d 0 (n2 - 1) && match d with
  | .tup xs => decide ((xs.length : Int) = n1) && (ks.all (hitK xs ks2) && bs.all (hitB xs bs2))
  | _ => false
theorem ix_wh {xs : List D} {n i : Int} {M : Mp} {Q : DQ} (hw : ∀ x ∈ xs, isWh x 0 n = true) (i0 : 0 ≤ i) (i1 : i < xs.length) (q : ∀ v : Int, atN xs i = .int v → Q (.int v) M) : ixD (.tup xs) (.int i) M Q := by
  obtain ⟨k, rfl⟩ := Int.eq_ofNat_of_zero_le i0
  have hk : k < xs.length := by omega
  obtain ⟨v, ev⟩ := isWh_int (hw _ (List.getElem_mem hk))
  refine ix_t k (List.getElem?_eq_getElem hk) ?_
  rw [ev]
  refine q v ?_
  unfold atN
  rw [Int.toNat_natCast, List.getD_eq_getElem?_getD, List.getElem?_eq_getElem hk, ev]
  rfl
def S_is_leading (c : Cs) : Spec := fun ds M Q => ∃ a b n1 ks bs n2 ks2 bs2 d, ds = [.ref a, .ref b, d] ∧ M a = some (.ins c.Net (netF (.int n1) (.tup ks) (.tup bs))) ∧ M b = some (.ins c.Net (netF (.int n2) (.tup ks2) (.tup bs2))) ∧ NetOk n1 ks bs ∧ NetOk n2 ks2 bs2 ∧ kns d M ∧
  ∀ M', Keep M M' → Q (.bl (leadB n1 ks bs n2 ks2 bs2 d)) M'
abbrev N_is_leading : List Str := ["net", "other", "thing", "name", "knot", "rule", "one", "two"]
def ir_is_leading (c : Cs) : Ss := (.cons (.ife (.bop .Or (.cons (.not_ (.call "are_whole" (S_are_whole c) (.cons (.var 2) (.cons (.int 0) (.cons (.bin .Sub (.lenO c.Net (S_Net_len_ c) (.var 1)) (.int 1)) .nil))))) (.cons (.cmp .NotEq (.bcall .len (.cons (.var 2) .nil)) (.lenO c.Net (S_Net_len_ c) (.var 0))) .nil))) (.cons (.ret (.bl false)) .nil) .nil) (.cons (.ife (.not_ (.bcall .all (.cons (.lc [("rule", 5), ("one", 6), ("two", 7)] (.tup (.cons (.name 5) (.cons (.name 6) (.cons (.name 7) .nil)))) (.seq (.fld (.var 0) c.Net "links")) .none (.cmp .In (.tup (.cons (.var 5) (.cons (.idx (.var 2) (.var 6)) (.cons (.idx (.var 2) (.var 7)) .nil)))) (.fld (.var 1) c.Net "links"))) .nil))) (.cons (.ret (.bl false)) .nil) .nil) (.cons (.ret (.bcall .all (.cons (.lc [("name", 3), ("knot", 4)] (.tup (.cons (.name 3) (.cons (.name 4) .nil))) (.seq (.fld (.var 0) c.Net "labels")) .none (.cmp .In (.tup (.cons (.var 3) (.cons (.idx (.var 2) (.var 4)) .nil))) (.fld (.var 1) c.Net "labels"))) .nil))) .nil)))
theorem wp_is_leading (c : Cs) {a b : Addr} {n1 n2 : Int} {ks bs ks2 bs2 : List D} {d : D} {M : Mp} {Q : DQ} (ha : M a = some (.ins c.Net (netF (.int n1) (.tup ks) (.tup bs)))) (hb : M b = some (.ins c.Net (netF (.int n2) (.tup ks2) (.tup bs2)))) (o1 : NetOk n1 ks bs) (o2 : NetOk n2 ks2 bs2) (hk : kns d M)
    (h : ∀ M', Keep M M' → Q (.bl (leadB n1 ks bs n2 ks2 bs2 d)) M') : (ir_is_leading c).wp (bodyEnds Q) [some (.ref a), some (.ref b), some d, none, none, none, none, none] M := by
  have zk : ks.length ≤ sizeLine := by have := o1.ll; rw [sizeLine_eq]; omega
  have zb : bs.length ≤ sizeLine := by have := o1.bl; rw [sizeLine_eq]; omega
  simp only [ir_is_leading, Ss.wp, S.wp, E.wp, E.wpT, Es.wp, Es.wpV, Es.wpT, Oe.wpO, Oe.wpT, Wk.wp, wSeq, wRet, wRetN, wNext, wNever, wDrop, wAsg, wIfS, wFor, wPar, wPar3, wFldS, wSetI, wSetK, wDnew, wMeth, wBm, wAndV, wOrV, wNotV, wAnd, wOr, wNot, wTest, wTru, wIf, w1, w2, w3, wVar, wC, wNil, wCons, wTup, wLst, wCall, wCallK, wO0, wO1, wSl, wLc, wISeq, wIR1, wIR2, wIZip, wIStr, wIEn, wDc, DcK.emp, Wk.wp, binF, cmpF, isaD, negD, Blt.spec, Bm.spec, Bm.ty, List.getElem?_cons_zero, List.getElem?_cons_succ, Option.some.injEq, exists_eq_left', exists_eq_left, exists_and_left, List.set_cons_zero, List.set_cons_succ, asn_name, asn_tup, asns_nil, asns_name, wipeD, tru_bl, tru_int, tru_non, tru_tup, bodyEnds, List.map_cons, List.map_nil, ↓reduceIte, Bool.false_eq_true, and_true, true_and, D.str.injEq, D.int.injEq, D.ref.injEq, D.tup.injEq, D.bl.injEq, add_ii, add_ss, add_tt, mul_ii, int_ii, abs_i, int_i, int_b, eq_ii, eq_ss, lt_ii, le_ii, gt_ii, ge_ii, ix_0, ix_1, ix_2, len_tt, tup_n]
  refine ⟨b, _, rfl, hb, b, n2, _, _, rfl, hb, o2.k0, o2.k1, fun M1 k1 => ⟨n2, rfl, o2.k0, by have := o2.k1; omega, ?_⟩⟩
  simp only [Ss.wp, S.wp, E.wp, E.wpT, Es.wp, Es.wpV, Es.wpT, Oe.wpO, Oe.wpT, Wk.wp, wSeq, wRet, wRetN, wNext, wNever, wDrop, wAsg, wIfS, wFor, wPar, wPar3, wFldS, wSetI, wSetK, wDnew, wMeth, wBm, wAndV, wOrV, wNotV, wAnd, wOr, wNot, wTest, wTru, wIf, w1, w2, w3, wVar, wC, wNil, wCons, wTup, wLst, wCall, wCallK, wO0, wO1, wSl, wLc, wISeq, wIR1, wIR2, wIZip, wIStr, wIEn, wDc, DcK.emp, Wk.wp, binF, cmpF, isaD, negD, Blt.spec, Bm.spec, Bm.ty, List.getElem?_cons_zero, List.getElem?_cons_succ, Option.some.injEq, exists_eq_left', exists_eq_left, exists_and_left, List.set_cons_zero, List.set_cons_succ, asn_name, asn_tup, asns_nil, asns_name, wipeD, tru_bl, tru_int, tru_non, tru_tup, bodyEnds, List.map_cons, List.map_nil, ↓reduceIte, Bool.false_eq_true, and_true, true_and, D.str.injEq, D.int.injEq, D.ref.injEq, D.tup.injEq, D.bl.injEq, add_ii, add_ss, add_tt, mul_ii, int_ii, abs_i, int_i, int_b, eq_ii, eq_ss, lt_ii, le_ii, gt_ii, ge_ii, ix_0, ix_1, ix_2, len_tt, tup_n]
  refine ⟨d, 0, n2 - 1, rfl, ⟨hk.1.keep k1, fun xs e x hx => (hk.2 xs e x hx).keep k1⟩, fun M2 k2 => ?_⟩
  simp only [Ss.wp, S.wp, E.wp, E.wpT, Es.wp, Es.wpV, Es.wpT, Oe.wpO, Oe.wpT, Wk.wp, wSeq, wRet, wRetN, wNext, wNever, wDrop, wAsg, wIfS, wFor, wPar, wPar3, wFldS, wSetI, wSetK, wDnew, wMeth, wBm, wAndV, wOrV, wNotV, wAnd, wOr, wNot, wTest, wTru, wIf, w1, w2, w3, wVar, wC, wNil, wCons, wTup, wLst, wCall, wCallK, wO0, wO1, wSl, wLc, wISeq, wIR1, wIR2, wIZip, wIStr, wIEn, wDc, DcK.emp, Wk.wp, binF, cmpF, isaD, negD, Blt.spec, Bm.spec, Bm.ty, List.getElem?_cons_zero, List.getElem?_cons_succ, Option.some.injEq, exists_eq_left', exists_eq_left, exists_and_left, List.set_cons_zero, List.set_cons_succ, asn_name, asn_tup, asns_nil, asns_name, wipeD, tru_bl, tru_int, tru_non, tru_tup, bodyEnds, List.map_cons, List.map_nil, ↓reduceIte, Bool.false_eq_true, and_true, true_and, D.str.injEq, D.int.injEq, D.ref.injEq, D.tup.injEq, D.bl.injEq, add_ii, add_ss, add_tt, mul_ii, int_ii, abs_i, int_i, int_b, eq_ii, eq_ss, lt_ii, le_ii, gt_ii, ge_ii, ix_0, ix_1, ix_2, len_tt, tup_n]
  cases hw : areWh d 0 (n2 - 1) with
  | false =>
    simp only [Bool.not_false, if_true]
    have := h M2 (k1.trans k2)
    unfold leadB at this
    rw [hw, Bool.false_and] at this
    exact this
  | true =>
    simp only [Bool.not_true, Bool.false_eq_true, if_false]
    cases d <;> first | (cases hw; done) | skip
    rename_i xs
    have hw' : ∀ x ∈ xs, isWh x 0 (n2 - 1) = true := List.all_eq_true.mp hw
    have hL : ∀ M', Keep M M' → Q (.bl (decide ((xs.length : Int) = n1) && (ks.all (hitK xs ks2) && bs.all (hitB xs bs2)))) M' := fun M' k' => by
      have := h M' k'
      unfold leadB at this
      rw [hw, Bool.true_and] at this
      exact this
    refine len_t ⟨a, _, rfl, k2 _ _ (k1 _ _ ha), a, n1, _, _, rfl, k2 _ _ (k1 _ _ ha), o1.k0, o1.k1, fun M3 k3 => ⟨n1, rfl, o1.k0, by have := o1.k1; omega, ?_⟩⟩
    simp only [Ss.wp, S.wp, E.wp, E.wpT, Es.wp, Es.wpV, Es.wpT, Oe.wpO, Oe.wpT, Wk.wp, wSeq, wRet, wRetN, wNext, wNever, wDrop, wAsg, wIfS, wFor, wPar, wPar3, wFldS, wSetI, wSetK, wDnew, wMeth, wBm, wAndV, wOrV, wNotV, wAnd, wOr, wNot, wTest, wTru, wIf, w1, w2, w3, wVar, wC, wNil, wCons, wTup, wLst, wCall, wCallK, wO0, wO1, wSl, wLc, wISeq, wIR1, wIR2, wIZip, wIStr, wIEn, wDc, DcK.emp, Wk.wp, binF, cmpF, isaD, negD, Blt.spec, Bm.spec, Bm.ty, List.getElem?_cons_zero, List.getElem?_cons_succ, Option.some.injEq, exists_eq_left', exists_eq_left, exists_and_left, List.set_cons_zero, List.set_cons_succ, asn_name, asn_tup, asns_nil, asns_name, wipeD, tru_bl, tru_int, tru_non, tru_tup, bodyEnds, List.map_cons, List.map_nil, ↓reduceIte, Bool.false_eq_true, and_true, true_and, D.str.injEq, D.int.injEq, D.ref.injEq, D.tup.injEq, D.bl.injEq, add_ii, add_ss, add_tt, mul_ii, int_ii, abs_i, int_i, int_b, eq_ii, eq_ss, lt_ii, le_ii, gt_ii, ge_ii, ix_0, ix_1, ix_2, len_tt, tup_n]
    by_cases hlen : (xs.length : Int) = n1
    · simp only [hlen, decide_true, Bool.not_true, Bool.false_eq_true, if_false]
      simp only [hlen, decide_true, Bool.true_and] at hL
      have k13 := k1.trans (k2.trans k3)
      refine ⟨a, _, _, rfl, k13 _ _ ha, look_links, _, seqT_t, zk, ?_⟩
      refine all_go (T := ⟨ks, fun _ => True⟩) (hitK xs ks2) (fun _ _ => trivial) (fun x hx M4 k k4 hkk => ?_) fun M4 k4 => ?_
      · obtain ⟨nm, is, rfl, el, hn, hi⟩ := o1.lk.each x hx
        obtain ⟨i, j, rfl⟩ : ∃ i j, is = [i, j] := by
          match is, el with
          | [i, j], _ => exact ⟨i, j, rfl⟩
        have hi0 := hi i (by simp)
        have hj0 := hi j (by simp)
        refine ⟨_, rfl, ?_⟩
        simp only [Ss.wp, S.wp, E.wp, E.wpT, Es.wp, Es.wpV, Es.wpT, Oe.wpO, Oe.wpT, Wk.wp, wSeq, wRet, wRetN, wNext, wNever, wDrop, wAsg, wIfS, wFor, wPar, wPar3, wFldS, wSetI, wSetK, wDnew, wMeth, wBm, wAndV, wOrV, wNotV, wAnd, wOr, wNot, wTest, wTru, wIf, w1, w2, w3, wVar, wC, wNil, wCons, wTup, wLst, wCall, wCallK, wO0, wO1, wSl, wLc, wISeq, wIR1, wIR2, wIZip, wIStr, wIEn, wDc, DcK.emp, Wk.wp, binF, cmpF, isaD, negD, Blt.spec, Bm.spec, Bm.ty, List.getElem?_cons_zero, List.getElem?_cons_succ, Option.some.injEq, exists_eq_left', exists_eq_left, exists_and_left, List.set_cons_zero, List.set_cons_succ, asn_name, asn_tup, asns_nil, asns_name, wipeD, tru_bl, tru_int, tru_non, tru_tup, bodyEnds, List.map_cons, List.map_nil, ↓reduceIte, Bool.false_eq_true, and_true, true_and, D.str.injEq, D.int.injEq, D.ref.injEq, D.tup.injEq, D.bl.injEq, add_ii, add_ss, add_tt, mul_ii, int_ii, abs_i, int_i, int_b, eq_ii, eq_ss, lt_ii, le_ii, gt_ii, ge_ii, ix_0, ix_1, ix_2, len_tt, tup_n]
        refine ix_wh hw' hi0.1 (by omega) fun v1 e1 => ix_wh hw' hj0.1 (by omega) fun v2 e2 => ⟨by simp [sizeLine_eq], b, _, _, rfl, (k13.trans k4) _ _ hb, look_links, ?_⟩
        refine in_tie (is := [v1, v2]) hn o2.lk ?_
        have := hkk M4 k4
        simp only [tie, List.map_cons, List.map_nil, hitK, e1, e2] at this
        exact this
      · simp only [Ss.wp, S.wp, E.wp, E.wpT, Es.wp, Es.wpV, Es.wpT, Oe.wpO, Oe.wpT, Wk.wp, wSeq, wRet, wRetN, wNext, wNever, wDrop, wAsg, wIfS, wFor, wPar, wPar3, wFldS, wSetI, wSetK, wDnew, wMeth, wBm, wAndV, wOrV, wNotV, wAnd, wOr, wNot, wTest, wTru, wIf, w1, w2, w3, wVar, wC, wNil, wCons, wTup, wLst, wCall, wCallK, wO0, wO1, wSl, wLc, wISeq, wIR1, wIR2, wIZip, wIStr, wIEn, wDc, DcK.emp, Wk.wp, binF, cmpF, isaD, negD, Blt.spec, Bm.spec, Bm.ty, List.getElem?_cons_zero, List.getElem?_cons_succ, Option.some.injEq, exists_eq_left', exists_eq_left, exists_and_left, List.set_cons_zero, List.set_cons_succ, asn_name, asn_tup, asns_nil, asns_name, wipeD, tru_bl, tru_int, tru_non, tru_tup, bodyEnds, List.map_cons, List.map_nil, ↓reduceIte, Bool.false_eq_true, and_true, true_and, D.str.injEq, D.int.injEq, D.ref.injEq, D.tup.injEq, D.bl.injEq, add_ii, add_ss, add_tt, mul_ii, int_ii, abs_i, int_i, int_b, eq_ii, eq_ss, lt_ii, le_ii, gt_ii, ge_ii, ix_0, ix_1, ix_2, len_tt, tup_n]
        cases hK : ks.all (hitK xs ks2) with
        | false =>
          simp only [Bool.not_false, if_true]
          have := hL M4 (k13.trans k4)
          rw [hK] at this
          exact this
        | true =>
          simp only [Bool.not_true, Bool.false_eq_true, if_false]
          rw [hK, ] at hL
          refine ⟨a, _, _, rfl, (k13.trans k4) _ _ ha, look_labels, _, seqT_t, zb, ?_⟩
          refine all_go (T := ⟨bs, fun _ => True⟩) (hitB xs bs2) (fun _ _ => trivial) (fun x hx M5 k k5 hkk => ?_) fun M5 k5 => ?_
          · obtain ⟨nm, is, rfl, el, hn, hi⟩ := o1.lb.each x hx
            obtain ⟨i, rfl⟩ : ∃ i, is = [i] := by
              match is, el with
              | [i], _ => exact ⟨i, rfl⟩
            have hi0 := hi i (by simp)
            refine ⟨_, rfl, ?_⟩
            simp only [Ss.wp, S.wp, E.wp, E.wpT, Es.wp, Es.wpV, Es.wpT, Oe.wpO, Oe.wpT, Wk.wp, wSeq, wRet, wRetN, wNext, wNever, wDrop, wAsg, wIfS, wFor, wPar, wPar3, wFldS, wSetI, wSetK, wDnew, wMeth, wBm, wAndV, wOrV, wNotV, wAnd, wOr, wNot, wTest, wTru, wIf, w1, w2, w3, wVar, wC, wNil, wCons, wTup, wLst, wCall, wCallK, wO0, wO1, wSl, wLc, wISeq, wIR1, wIR2, wIZip, wIStr, wIEn, wDc, DcK.emp, Wk.wp, binF, cmpF, isaD, negD, Blt.spec, Bm.spec, Bm.ty, List.getElem?_cons_zero, List.getElem?_cons_succ, Option.some.injEq, exists_eq_left', exists_eq_left, exists_and_left, List.set_cons_zero, List.set_cons_succ, asn_name, asn_tup, asns_nil, asns_name, wipeD, tru_bl, tru_int, tru_non, tru_tup, bodyEnds, List.map_cons, List.map_nil, ↓reduceIte, Bool.false_eq_true, and_true, true_and, D.str.injEq, D.int.injEq, D.ref.injEq, D.tup.injEq, D.bl.injEq, add_ii, add_ss, add_tt, mul_ii, int_ii, abs_i, int_i, int_b, eq_ii, eq_ss, lt_ii, le_ii, gt_ii, ge_ii, ix_0, ix_1, ix_2, len_tt, tup_n]
            refine ix_wh hw' hi0.1 (by omega) fun v1 e1 => ⟨by simp [sizeLine_eq], b, _, _, rfl, ((k13.trans k4).trans k5) _ _ hb, look_labels, ?_⟩
            refine in_tie (is := [v1]) hn o2.lb ?_
            have := hkk M5 k5
            simp only [tie, List.map_cons, List.map_nil, hitB, e1] at this
            exact this
          · have := hL M5 ((k13.trans k4).trans k5)
            simpa using this
    · simp only [hlen, decide_false, Bool.not_false, if_true]
      have := hL M3 (k1.trans (k2.trans k3))
      simpa [hlen] using this
/-! ### led_back -/
def ledL (xs fs : List D) : List D := xs.map fun x => match x with | .int i => atN fs i | _ => .non
def S_led_back (_ : Cs) : Spec := fun ds M Q => ∃ xs fs, ds = [.tup xs, .tup fs] ∧ xs.length ≤ sizeLine ∧ (∀ x ∈ xs, ∃ i : Int, x = .int i ∧ 0 ≤ i ∧ i < fs.length) ∧ ∀ M', Keep M M' → Q (.tup (ledL xs fs)) M'
theorem ix_at {fs : List D} {i : Int} {M : Mp} {Q : DQ} (i0 : 0 ≤ i) (i1 : i < fs.length) (q : Q (atN fs i) M) : ixD (.tup fs) (.int i) M Q := by
  obtain ⟨k, rfl⟩ := Int.eq_ofNat_of_zero_le i0
  have hk : k < fs.length := by omega
  refine ix_t k (List.getElem?_eq_getElem hk) ?_
  unfold atN at q
  rw [Int.toNat_natCast, List.getD_eq_getElem?_getD, List.getElem?_eq_getElem hk] at q
  exact q
abbrev N_led_back : List Str := ["leading", "filling", "knot"]
def ir_led_back (c : Cs) : Ss := (.cons (.ret (.bcall .tuple (.cons (.lc [("knot", 2)] (.name 2) (.seq (.var 0)) .none (.idx (.var 1) (.var 2))) .nil))) .nil)
theorem led_go {ρ : Ro} {xs fs : List D} {k : Nat} {M : Mp} {R : List D → Mp → Prop} {we : WE} (hx : ∀ x ∈ xs, ∃ i : Int, x = .int i ∧ 0 ≤ i ∧ i < fs.length) (hs : ∀ x, ∃ ρ1, (Tg.name k).asn x ρ = some ρ1 ∧ ∀ M2 (q : D → Mp → Prop), ixD (.tup fs) x M2 q → we ρ1 M2 q)
    (h : ∀ M', Keep M M' → R (ledL xs fs) M') : lcGo ⟨xs, fun _ => True⟩ (.name k) wYes we ρ (fun acc M2 => ∀ p, M2 p = none → R acc (up M2 p (.lst acc))) xs [] M := by
  refine lcGo_map (T := ⟨xs, fun _ => True⟩) (M0 := M) (fun x => some (match x with | .int i => atN fs i | _ => .non)) (fun _ _ => trivial) xs M (.refl _) (fun x hx' acc M2 kk k2 hk => ?_) fun M2 k2 p hp => ?_
  · obtain ⟨i, rfl, i0, i1⟩ := hx x hx'
    obtain ⟨ρ1, e, w⟩ := hs (.int i)
    exact ⟨ρ1, e, yes_if (w M2 _ (ix_at i0 i1 (hk M2 k2)))⟩
  · rw [List.filterMap_eq_map']
    exact h _ (k2.trans (.new hp))
theorem wp_led_back (c : Cs) {xs fs : List D} {M : Mp} {Q : DQ} (zx : xs.length ≤ sizeLine) (hx : ∀ x ∈ xs, ∃ i : Int, x = .int i ∧ 0 ≤ i ∧ i < fs.length) (h : ∀ M', Keep M M' → Q (.tup (ledL xs fs)) M') : (ir_led_back c).wp (bodyEnds Q) [some (.tup xs), some (.tup fs), none] M := by
  simp only [ir_led_back, Ss.wp, S.wp, E.wp, E.wpT, Es.wp, Es.wpV, Es.wpT, Oe.wpO, Oe.wpT, Wk.wp, wSeq, wRet, wRetN, wNext, wNever, wDrop, wAsg, wIfS, wFor, wPar, wPar3, wFldS, wSetI, wSetK, wDnew, wMeth, wBm, wAndV, wOrV, wNotV, wAnd, wOr, wNot, wTest, wTru, wIf, w1, w2, w3, wVar, wC, wNil, wCons, wTup, wLst, wCall, wCallK, wO0, wO1, wSl, wLc, wISeq, wIR1, wIR2, wIZip, wIStr, wIEn, wDc, DcK.emp, Wk.wp, binF, cmpF, isaD, negD, Blt.spec, Bm.spec, Bm.ty, List.getElem?_cons_zero, List.getElem?_cons_succ, Option.some.injEq, exists_eq_left', exists_eq_left, exists_and_left, List.set_cons_zero, List.set_cons_succ, asn_name, asn_tup, asns_nil, asns_name, wipeD, tru_bl, tru_int, tru_non, tru_tup, bodyEnds, List.map_cons, List.map_nil, ↓reduceIte, Bool.false_eq_true, and_true, true_and, D.str.injEq, D.int.injEq, D.ref.injEq, D.tup.injEq, D.bl.injEq, add_ii, add_ss, add_tt, mul_ii, int_ii, abs_i, int_i, int_b, eq_ii, eq_ss, lt_ii, le_ii, gt_ii, ge_ii, ix_0, ix_1, ix_2, len_tt, tup_n]
  refine ⟨_, seqT_t, zx, led_go (R := fun acc M => Q (.tup acc) M) hx (fun x => ⟨_, rfl, fun M2 q w => ?_⟩) h⟩
  simp only [Ss.wp, S.wp, E.wp, E.wpT, Es.wp, Es.wpV, Es.wpT, Oe.wpO, Oe.wpT, Wk.wp, wSeq, wRet, wRetN, wNext, wNever, wDrop, wAsg, wIfS, wFor, wPar, wPar3, wFldS, wSetI, wSetK, wDnew, wMeth, wBm, wAndV, wOrV, wNotV, wAnd, wOr, wNot, wTest, wTru, wIf, w1, w2, w3, wVar, wC, wNil, wCons, wTup, wLst, wCall, wCallK, wO0, wO1, wSl, wLc, wISeq, wIR1, wIR2, wIZip, wIStr, wIEn, wDc, DcK.emp, Wk.wp, binF, cmpF, isaD, negD, Blt.spec, Bm.spec, Bm.ty, List.getElem?_cons_zero, List.getElem?_cons_succ, Option.some.injEq, exists_eq_left', exists_eq_left, exists_and_left, List.set_cons_zero, List.set_cons_succ, asn_name, asn_tup, asns_nil, asns_name, wipeD, tru_bl, tru_int, tru_non, tru_tup, bodyEnds, List.map_cons, List.map_nil, ↓reduceIte, Bool.false_eq_true, and_true, true_and, D.str.injEq, D.int.injEq, D.ref.injEq, D.tup.injEq, D.bl.injEq, add_ii, add_ss, add_tt, mul_ii, int_ii, abs_i, int_i, int_b, eq_ii, eq_ss, lt_ii, le_ii, gt_ii, ge_ii, ix_0, ix_1, ix_2, len_tt, tup_n]
  exact w
/-! ### the law's net, made -/
def S_l_net (c : Cs) : Spec := fun ds M Q => ∃ n ks bs, ds = [meshT n ks bs] ∧ NetOk n ks bs ∧ ∀ M' t, Keep M M' → M t = none → M' t = some (.ins c.Net (netF (.int n) (.tup ks) (.tup bs))) → Q (.ref t) M'
abbrev N_l_net : List Str := ["_law_mesh_here"]
def ir_l_net (c : Cs) : Ss := (.cons (.ret (.callK "Net" (S_Net_K1_links_labels c) (.cons (.idx (.var 0) (.int 0)) .nil) ["links", "labels"] (.cons (.idx (.var 0) (.int 1)) (.cons (.idx (.var 0) (.int 2)) .nil)))) .nil)
theorem wp_l_net (c : Cs) {n : Int} {ks bs : List D} {M : Mp} {Q : DQ} (ok : NetOk n ks bs) (h : ∀ M' t, Keep M M' → M t = none → M' t = some (.ins c.Net (netF (.int n) (.tup ks) (.tup bs))) → Q (.ref t) M') : (ir_l_net c).wp (bodyEnds Q) [some (meshT n ks bs)] M := by
  simp only [ir_l_net, meshT, Ss.wp, S.wp, E.wp, E.wpT, Es.wp, Es.wpV, Es.wpT, Oe.wpO, Oe.wpT, Wk.wp, wSeq, wRet, wRetN, wNext, wNever, wDrop, wAsg, wIfS, wFor, wPar, wPar3, wFldS, wSetI, wSetK, wDnew, wMeth, wBm, wAndV, wOrV, wNotV, wAnd, wOr, wNot, wTest, wTru, wIf, w1, w2, w3, wVar, wC, wNil, wCons, wTup, wLst, wCall, wCallK, wO0, wO1, wSl, wLc, wISeq, wIR1, wIR2, wIZip, wIStr, wIEn, wDc, DcK.emp, Wk.wp, binF, cmpF, isaD, negD, Blt.spec, Bm.spec, Bm.ty, List.getElem?_cons_zero, List.getElem?_cons_succ, Option.some.injEq, exists_eq_left', exists_eq_left, exists_and_left, List.set_cons_zero, List.set_cons_succ, asn_name, asn_tup, asns_nil, asns_name, wipeD, tru_bl, tru_int, tru_non, tru_tup, bodyEnds, List.map_cons, List.map_nil, ↓reduceIte, Bool.false_eq_true, and_true, true_and, D.str.injEq, D.int.injEq, D.ref.injEq, D.tup.injEq, D.bl.injEq, add_ii, add_ss, add_tt, mul_ii, int_ii, abs_i, int_i, int_b, eq_ii, eq_ss, lt_ii, le_ii, gt_ii, ge_ii, ix_0, ix_1, ix_2, len_tt, tup_n]
  intro y hy
  refine ⟨y, n, _, _, rfl, up_same, ok, fun M8 kk8 hy8 => ⟨rfl, h M8 y (fun a o e => ?_) hy hy8⟩⟩
  have ny : a ≠ y := fun z => by subst z; rw [e] at hy; cases hy
  exact kk8 a o ny (by rw [up_ne ny]; exact e)
/-! ### what is due -/
def S_l_due (_ : Cs) : Spec := fun ds M Q => ∃ n1 ks bs n2 ks2 bs2 d, ds = [meshT n1 ks bs, meshT n2 ks2 bs2, d] ∧ NetOk n1 ks bs ∧ NetOk n2 ks2 bs2 ∧ kns d M ∧ ∀ M', Keep M M' → Q (.bl (leadB n1 ks bs n2 ks2 bs2 d)) M'
abbrev N_l_due : List Str := ["_law_small", "_law_mesh_here", "_law_item", "_law_at", "_law_called", "_law_one", "_law_two"]
def ir_l_due (c : Cs) : Ss := (.cons (.ife (.bop .Or (.cons (.not_ (.isa (.var 2) (.bty "tuple") (isaB c "tuple"))) (.cons (.cmp .NotEq (.bcall .len (.cons (.var 2) .nil)) (.idx (.var 0) (.int 0))) .nil))) (.cons (.ret (.bl false)) .nil) .nil) (.cons (.ife (.not_ (.bcall .all (.cons (.lc [("_law_at", 3)] (.name 3) (.seq (.var 2)) .none (.bop .And (.cons (.isa (.var 3) (.bty "int") (isaB c "int")) (.cons (.not_ (.isa (.var 3) (.bty "bool") (isaB c "bool"))) (.cons (.chain .LtE .Lt (.int 0) (.var 3) (.idx (.var 1) (.int 0))) .nil))))) .nil))) (.cons (.ret (.bl false)) .nil) .nil) (.cons (.ife (.not_ (.bcall .all (.cons (.lc [("_law_called", 4), ("_law_one", 5), ("_law_two", 6)] (.tup (.cons (.name 4) (.cons (.name 5) (.cons (.name 6) .nil)))) (.seq (.idx (.var 0) (.int 1))) .none (.cmp .In (.tup (.cons (.var 4) (.cons (.idx (.var 2) (.var 5)) (.cons (.idx (.var 2) (.var 6)) .nil)))) (.idx (.var 1) (.int 1)))) .nil))) (.cons (.ret (.bl false)) .nil) .nil) (.cons (.ret (.bcall .all (.cons (.lc [("_law_called", 4), ("_law_one", 5)] (.tup (.cons (.name 4) (.cons (.name 5) .nil))) (.seq (.idx (.var 0) (.int 2))) .none (.cmp .In (.tup (.cons (.var 4) (.cons (.idx (.var 2) (.var 5)) .nil))) (.idx (.var 1) (.int 2)))) .nil))) .nil))))
theorem wp_l_due (c : Cs) {n1 n2 : Int} {ks bs ks2 bs2 : List D} {d : D} {M : Mp} {Q : DQ} (zd : sz d) (o1 : NetOk n1 ks bs) (o2 : NetOk n2 ks2 bs2) (hk : kns d M) (h : ∀ M', Keep M M' → Q (.bl (leadB n1 ks bs n2 ks2 bs2 d)) M') :
    (ir_l_due c).wp (bodyEnds Q) [some (meshT n1 ks bs), some (meshT n2 ks2 bs2), some d, none, none, none, none] M := by
  have zk : ks.length ≤ sizeLine := by have := o1.ll; rw [sizeLine_eq]; omega
  have zb : bs.length ≤ sizeLine := by have := o1.bl; rw [sizeLine_eq]; omega
  simp only [ir_l_due, meshT, Ss.wp, S.wp, E.wp, E.wpT, Es.wp, Es.wpV, Es.wpT, Oe.wpO, Oe.wpT, Wk.wp, wSeq, wRet, wRetN, wNext, wNever, wDrop, wAsg, wIfS, wFor, wPar, wPar3, wFldS, wSetI, wSetK, wDnew, wMeth, wBm, wAndV, wOrV, wNotV, wAnd, wOr, wNot, wTest, wTru, wIf, w1, w2, w3, wVar, wC, wNil, wCons, wTup, wLst, wCall, wCallK, wO0, wO1, wSl, wLc, wISeq, wIR1, wIR2, wIZip, wIStr, wIEn, wDc, DcK.emp, Wk.wp, binF, cmpF, isaD, negD, Blt.spec, Bm.spec, Bm.ty, List.getElem?_cons_zero, List.getElem?_cons_succ, Option.some.injEq, exists_eq_left', exists_eq_left, exists_and_left, List.set_cons_zero, List.set_cons_succ, asn_name, asn_tup, asns_nil, asns_name, wipeD, tru_bl, tru_int, tru_non, tru_tup, bodyEnds, List.map_cons, List.map_nil, ↓reduceIte, Bool.false_eq_true, and_true, true_and, D.str.injEq, D.int.injEq, D.ref.injEq, D.tup.injEq, D.bl.injEq, add_ii, add_ss, add_tt, mul_ii, int_ii, abs_i, int_i, int_b, eq_ii, eq_ss, lt_ii, le_ii, gt_ii, ge_ii, ix_0, ix_1, ix_2, len_tt, tup_n]
  have no : areWh d 0 (n2 - 1) = false → ∀ M', Keep M M' → Q (.bl false) M' := fun e M' k' => by
    have := h M' k'
    unfold leadB at this
    rw [e, Bool.false_and] at this
    exact this
  cases d with
  | ty n => exact (kn_ty hk.1).elim
  | ref a => exact ⟨false, isaB_ref hk.1 (by decide) (by decide), by simpa using no rfl M (.refl M)⟩
  | tup xs =>
    refine ⟨true, rfl, ?_⟩
    simp only [Bool.not_true, Bool.false_eq_true, if_false]
    simp only [Ss.wp, S.wp, E.wp, E.wpT, Es.wp, Es.wpV, Es.wpT, Oe.wpO, Oe.wpT, Wk.wp, wSeq, wRet, wRetN, wNext, wNever, wDrop, wAsg, wIfS, wFor, wPar, wPar3, wFldS, wSetI, wSetK, wDnew, wMeth, wBm, wAndV, wOrV, wNotV, wAnd, wOr, wNot, wTest, wTru, wIf, w1, w2, w3, wVar, wC, wNil, wCons, wTup, wLst, wCall, wCallK, wO0, wO1, wSl, wLc, wISeq, wIR1, wIR2, wIZip, wIStr, wIEn, wDc, DcK.emp, Wk.wp, binF, cmpF, isaD, negD, Blt.spec, Bm.spec, Bm.ty, List.getElem?_cons_zero, List.getElem?_cons_succ, Option.some.injEq, exists_eq_left', exists_eq_left, exists_and_left, List.set_cons_zero, List.set_cons_succ, asn_name, asn_tup, asns_nil, asns_name, wipeD, tru_bl, tru_int, tru_non, tru_tup, bodyEnds, List.map_cons, List.map_nil, ↓reduceIte, Bool.false_eq_true, and_true, true_and, D.str.injEq, D.int.injEq, D.ref.injEq, D.tup.injEq, D.bl.injEq, add_ii, add_ss, add_tt, mul_ii, int_ii, abs_i, int_i, int_b, eq_ii, eq_ss, lt_ii, le_ii, gt_ii, ge_ii, ix_0, ix_1, ix_2, len_tt, tup_n]
    by_cases hlen : (xs.length : Int) = n1
    · simp only [hlen, decide_true, Bool.not_true, Bool.false_eq_true, if_false]
      refine ⟨_, seqT_t, (sz_tup zd).1, ?_⟩
      refine all_go (T := ⟨xs, fun _ => True⟩) (fun x => isWh x 0 (n2 - 1)) (fun _ _ => trivial) (fun x hx M1 k k1 hkk => ⟨_, rfl, ?_⟩) fun M1 k1 => ?_
      · simp only [Ss.wp, S.wp, E.wp, E.wpT, Es.wp, Es.wpV, Es.wpT, Oe.wpO, Oe.wpT, Wk.wp, wSeq, wRet, wRetN, wNext, wNever, wDrop, wAsg, wIfS, wFor, wPar, wPar3, wFldS, wSetI, wSetK, wDnew, wMeth, wBm, wAndV, wOrV, wNotV, wAnd, wOr, wNot, wTest, wTru, wIf, w1, w2, w3, wVar, wC, wNil, wCons, wTup, wLst, wCall, wCallK, wO0, wO1, wSl, wLc, wISeq, wIR1, wIR2, wIZip, wIStr, wIEn, wDc, DcK.emp, Wk.wp, binF, cmpF, isaD, negD, Blt.spec, Bm.spec, Bm.ty, List.getElem?_cons_zero, List.getElem?_cons_succ, Option.some.injEq, exists_eq_left', exists_eq_left, exists_and_left, List.set_cons_zero, List.set_cons_succ, asn_name, asn_tup, asns_nil, asns_name, wipeD, tru_bl, tru_int, tru_non, tru_tup, bodyEnds, List.map_cons, List.map_nil, ↓reduceIte, Bool.false_eq_true, and_true, true_and, D.str.injEq, D.int.injEq, D.ref.injEq, D.tup.injEq, D.bl.injEq, add_ii, add_ss, add_tt, mul_ii, int_ii, abs_i, int_i, int_b, eq_ii, eq_ss, lt_ii, le_ii, gt_ii, ge_ii, ix_0, ix_1, ix_2, len_tt, tup_n]
        have kx := (hk.2 xs rfl x hx).keep k1
        have q := hkk M1 k1
        cases x with
        | ty n => exact (kn_ty kx).elim
        | ref a => exact ⟨false, isaB_ref kx (by decide) (by decide), by simpa [isWh] using q⟩
        | int i =>
          refine ⟨true, rfl, ?_⟩
          rw [if_pos rfl]
          refine ⟨false, rfl, ?_⟩
          simp only [Ss.wp, S.wp, E.wp, E.wpT, Es.wp, Es.wpV, Es.wpT, Oe.wpO, Oe.wpT, Wk.wp, wSeq, wRet, wRetN, wNext, wNever, wDrop, wAsg, wIfS, wFor, wPar, wPar3, wFldS, wSetI, wSetK, wDnew, wMeth, wBm, wAndV, wOrV, wNotV, wAnd, wOr, wNot, wTest, wTru, wIf, w1, w2, w3, wVar, wC, wNil, wCons, wTup, wLst, wCall, wCallK, wO0, wO1, wSl, wLc, wISeq, wIR1, wIR2, wIZip, wIStr, wIEn, wDc, DcK.emp, Wk.wp, binF, cmpF, isaD, negD, Blt.spec, Bm.spec, Bm.ty, List.getElem?_cons_zero, List.getElem?_cons_succ, Option.some.injEq, exists_eq_left', exists_eq_left, exists_and_left, List.set_cons_zero, List.set_cons_succ, asn_name, asn_tup, asns_nil, asns_name, wipeD, tru_bl, tru_int, tru_non, tru_tup, bodyEnds, List.map_cons, List.map_nil, ↓reduceIte, Bool.false_eq_true, and_true, true_and, D.str.injEq, D.int.injEq, D.ref.injEq, D.tup.injEq, D.bl.injEq, add_ii, add_ss, add_tt, mul_ii, int_ii, abs_i, int_i, int_b, eq_ii, eq_ss, lt_ii, le_ii, gt_ii, ge_ii, ix_0, ix_1, ix_2, len_tt, tup_n, Bool.not_false]
          unfold isWh at q
          by_cases h1 : 0 ≤ i
          · simp only [h1, decide_true, if_true]
            by_cases h2 : i < n2
            · have h2' : i ≤ n2 - 1 := by omega
              simpa [h1, h2, h2'] using q
            · have h2' : ¬ i ≤ n2 - 1 := by omega
              simpa [h1, h2, h2'] using q
          · simp only [h1, decide_false, Bool.false_eq_true, if_false]
            simpa [h1] using q
        | bl b =>
          refine ⟨true, rfl, ?_⟩
          rw [if_pos rfl]
          exact ⟨true, rfl, by simpa [isWh] using q⟩
        | _ => exact ⟨false, rfl, by simpa [isWh] using q⟩
      · simp only [Ss.wp, S.wp, E.wp, E.wpT, Es.wp, Es.wpV, Es.wpT, Oe.wpO, Oe.wpT, Wk.wp, wSeq, wRet, wRetN, wNext, wNever, wDrop, wAsg, wIfS, wFor, wPar, wPar3, wFldS, wSetI, wSetK, wDnew, wMeth, wBm, wAndV, wOrV, wNotV, wAnd, wOr, wNot, wTest, wTru, wIf, w1, w2, w3, wVar, wC, wNil, wCons, wTup, wLst, wCall, wCallK, wO0, wO1, wSl, wLc, wISeq, wIR1, wIR2, wIZip, wIStr, wIEn, wDc, DcK.emp, Wk.wp, binF, cmpF, isaD, negD, Blt.spec, Bm.spec, Bm.ty, List.getElem?_cons_zero, List.getElem?_cons_succ, Option.some.injEq, exists_eq_left', exists_eq_left, exists_and_left, List.set_cons_zero, List.set_cons_succ, asn_name, asn_tup, asns_nil, asns_name, wipeD, tru_bl, tru_int, tru_non, tru_tup, bodyEnds, List.map_cons, List.map_nil, ↓reduceIte, Bool.false_eq_true, and_true, true_and, D.str.injEq, D.int.injEq, D.ref.injEq, D.tup.injEq, D.bl.injEq, add_ii, add_ss, add_tt, mul_ii, int_ii, abs_i, int_i, int_b, eq_ii, eq_ss, lt_ii, le_ii, gt_ii, ge_ii, ix_0, ix_1, ix_2, len_tt, tup_n]
        cases hw : (xs.all fun x => isWh x 0 (n2 - 1)) with
        | false =>
          simp only [Bool.not_false, if_true]
          exact no hw M1 k1
        | true =>
          simp only [Bool.not_true, Bool.false_eq_true, if_false]
          have hw' : ∀ x ∈ xs, isWh x 0 (n2 - 1) = true := List.all_eq_true.mp hw
          have hL : ∀ M', Keep M M' → Q (.bl (ks.all (hitK xs ks2) && bs.all (hitB xs bs2))) M' := fun M' k' => by
            have := h M' k'
            unfold leadB at this
            rw [show areWh (.tup xs) 0 (n2 - 1) = true from hw] at this
            simpa [hlen] using this
          refine ⟨_, seqT_t, zk, ?_⟩
          refine all_go (T := ⟨ks, fun _ => True⟩) (hitK xs ks2) (fun _ _ => trivial) (fun x hx M4 k k4 hkk => ?_) fun M4 k4 => ?_
          · obtain ⟨nm, is, rfl, el, hn, hi⟩ := o1.lk.each x hx
            obtain ⟨i, j, rfl⟩ : ∃ i j, is = [i, j] := by
              match is, el with
              | [i, j], _ => exact ⟨i, j, rfl⟩
            have hi0 := hi i (by simp)
            have hj0 := hi j (by simp)
            refine ⟨_, rfl, ?_⟩
            simp only [Ss.wp, S.wp, E.wp, E.wpT, Es.wp, Es.wpV, Es.wpT, Oe.wpO, Oe.wpT, Wk.wp, wSeq, wRet, wRetN, wNext, wNever, wDrop, wAsg, wIfS, wFor, wPar, wPar3, wFldS, wSetI, wSetK, wDnew, wMeth, wBm, wAndV, wOrV, wNotV, wAnd, wOr, wNot, wTest, wTru, wIf, w1, w2, w3, wVar, wC, wNil, wCons, wTup, wLst, wCall, wCallK, wO0, wO1, wSl, wLc, wISeq, wIR1, wIR2, wIZip, wIStr, wIEn, wDc, DcK.emp, Wk.wp, binF, cmpF, isaD, negD, Blt.spec, Bm.spec, Bm.ty, List.getElem?_cons_zero, List.getElem?_cons_succ, Option.some.injEq, exists_eq_left', exists_eq_left, exists_and_left, List.set_cons_zero, List.set_cons_succ, asn_name, asn_tup, asns_nil, asns_name, wipeD, tru_bl, tru_int, tru_non, tru_tup, bodyEnds, List.map_cons, List.map_nil, ↓reduceIte, Bool.false_eq_true, and_true, true_and, D.str.injEq, D.int.injEq, D.ref.injEq, D.tup.injEq, D.bl.injEq, add_ii, add_ss, add_tt, mul_ii, int_ii, abs_i, int_i, int_b, eq_ii, eq_ss, lt_ii, le_ii, gt_ii, ge_ii, ix_0, ix_1, ix_2, len_tt, tup_n]
            refine ix_wh hw' hi0.1 (by omega) fun v1 e1 => ix_wh hw' hj0.1 (by omega) fun v2 e2 => ⟨by simp [sizeLine_eq], ?_⟩
            refine in_tie (is := [v1, v2]) hn o2.lk ?_
            have := hkk M4 k4
            simp only [tie, List.map_cons, List.map_nil, hitK, e1, e2] at this
            exact this
          · simp only [Ss.wp, S.wp, E.wp, E.wpT, Es.wp, Es.wpV, Es.wpT, Oe.wpO, Oe.wpT, Wk.wp, wSeq, wRet, wRetN, wNext, wNever, wDrop, wAsg, wIfS, wFor, wPar, wPar3, wFldS, wSetI, wSetK, wDnew, wMeth, wBm, wAndV, wOrV, wNotV, wAnd, wOr, wNot, wTest, wTru, wIf, w1, w2, w3, wVar, wC, wNil, wCons, wTup, wLst, wCall, wCallK, wO0, wO1, wSl, wLc, wISeq, wIR1, wIR2, wIZip, wIStr, wIEn, wDc, DcK.emp, Wk.wp, binF, cmpF, isaD, negD, Blt.spec, Bm.spec, Bm.ty, List.getElem?_cons_zero, List.getElem?_cons_succ, Option.some.injEq, exists_eq_left', exists_eq_left, exists_and_left, List.set_cons_zero, List.set_cons_succ, asn_name, asn_tup, asns_nil, asns_name, wipeD, tru_bl, tru_int, tru_non, tru_tup, bodyEnds, List.map_cons, List.map_nil, ↓reduceIte, Bool.false_eq_true, and_true, true_and, D.str.injEq, D.int.injEq, D.ref.injEq, D.tup.injEq, D.bl.injEq, add_ii, add_ss, add_tt, mul_ii, int_ii, abs_i, int_i, int_b, eq_ii, eq_ss, lt_ii, le_ii, gt_ii, ge_ii, ix_0, ix_1, ix_2, len_tt, tup_n]
            cases hK : ks.all (hitK xs ks2) with
            | false =>
              simp only [Bool.not_false, if_true]
              have := hL M4 (k1.trans k4)
              rw [hK] at this
              exact this
            | true =>
              simp only [Bool.not_true, Bool.false_eq_true, if_false]
              rw [hK] at hL
              refine ⟨_, seqT_t, zb, ?_⟩
              refine all_go (T := ⟨bs, fun _ => True⟩) (hitB xs bs2) (fun _ _ => trivial) (fun x hx M5 k k5 hkk => ?_) fun M5 k5 => ?_
              · obtain ⟨nm, is, rfl, el, hn, hi⟩ := o1.lb.each x hx
                obtain ⟨i, rfl⟩ : ∃ i, is = [i] := by
                  match is, el with
                  | [i], _ => exact ⟨i, rfl⟩
                have hi0 := hi i (by simp)
                refine ⟨_, rfl, ?_⟩
                simp only [Ss.wp, S.wp, E.wp, E.wpT, Es.wp, Es.wpV, Es.wpT, Oe.wpO, Oe.wpT, Wk.wp, wSeq, wRet, wRetN, wNext, wNever, wDrop, wAsg, wIfS, wFor, wPar, wPar3, wFldS, wSetI, wSetK, wDnew, wMeth, wBm, wAndV, wOrV, wNotV, wAnd, wOr, wNot, wTest, wTru, wIf, w1, w2, w3, wVar, wC, wNil, wCons, wTup, wLst, wCall, wCallK, wO0, wO1, wSl, wLc, wISeq, wIR1, wIR2, wIZip, wIStr, wIEn, wDc, DcK.emp, Wk.wp, binF, cmpF, isaD, negD, Blt.spec, Bm.spec, Bm.ty, List.getElem?_cons_zero, List.getElem?_cons_succ, Option.some.injEq, exists_eq_left', exists_eq_left, exists_and_left, List.set_cons_zero, List.set_cons_succ, asn_name, asn_tup, asns_nil, asns_name, wipeD, tru_bl, tru_int, tru_non, tru_tup, bodyEnds, List.map_cons, List.map_nil, ↓reduceIte, Bool.false_eq_true, and_true, true_and, D.str.injEq, D.int.injEq, D.ref.injEq, D.tup.injEq, D.bl.injEq, add_ii, add_ss, add_tt, mul_ii, int_ii, abs_i, int_i, int_b, eq_ii, eq_ss, lt_ii, le_ii, gt_ii, ge_ii, ix_0, ix_1, ix_2, len_tt, tup_n]
                refine ix_wh hw' hi0.1 (by omega) fun v1 e1 => ⟨by simp [sizeLine_eq], ?_⟩
                refine in_tie (is := [v1]) hn o2.lb ?_
                have := hkk M5 k5
                simp only [tie, List.map_cons, List.map_nil, hitB, e1] at this
                exact this
              · have := hL M5 ((k1.trans k4).trans k5)
                simpa using this
    · simp only [hlen, decide_false, Bool.not_false, if_true]
      have := h M (.refl M)
      unfold leadB at this
      simpa [hlen] using this
  | _ => exact ⟨false, rfl, by simpa using no rfl M (.refl M)⟩
/-! ### things bent -/
theorem kn_put {d : D} {M : Mp} {p : Addr} {xs ys : List D} (hp : M p = some (.lst ys)) (h : kn d M) : kn d (up M p (.lst xs)) := by
  obtain ⟨k, h⟩ := h
  cases d <;> (try exact ⟨k, h⟩)
  rename_i a
  have h : kindO (M a) = some k := h
  show ∃ k, kindO (up M p (.lst xs) a) = some k
  by_cases e : a = p
  · subst e; rw [up_same]; exact ⟨_, rfl⟩
  · rw [up_ne e]; exact ⟨k, h⟩
theorem kns_put {d : D} {M : Mp} {p : Addr} {xs ys : List D} (hp : M p = some (.lst ys)) (h : kns d M) : kns d (up M p (.lst xs)) := ⟨kn_put hp h.1, fun zs e x hx => kn_put hp (h.2 zs e x hx)⟩
theorem kns.keep {d : D} {M M' : Mp} (h : kns d M) (k : Keep M M') : kns d M' := ⟨h.1.keep k, fun zs e x hx => (h.2 zs e x hx).keep k⟩
theorem kns_tup {xs : List D} {M : Mp} (h : ∀ x ∈ xs, kn x M) : kns (.tup xs) M := ⟨kn_tup, fun zs e x hx => by cases e; exact h x hx⟩
theorem kns_flat {d : D} {M : Mp} (h : kn d M) (hn : ∀ xs, d ≠ .tup xs) : kns d M := ⟨h, fun zs e => absurd e (hn zs)⟩
def S_l_bent (_ : Cs) : Spec := fun ds M Q => ∃ p n ks bs spots, ds = [.ref p, meshT n ks bs, .tup spots] ∧ M p = some .pot ∧ 0 ≤ n ∧ n ≤ 60 ∧ (∀ x ∈ spots, ∃ i : Int, x = .int i) ∧ spots.length ≤ 60 ∧
  ∀ M' q items, Keep M M' → M q = none → M' q = some (.lst items) → (∀ x ∈ items, kns x M') → items.length ≤ 20 → Q (.ref q) M'
abbrev N_l_bent : List Str := ["_law_pot_here", "_law_mesh_here", "_law_spots", "_law_found", "_law_odd", "_law_at"]
def ir_l_bent (c : Cs) : Ss := (.cons (.asg (.name 3) (.lst (.cons (.var 2) (.cons (.bin .Add (.var 2) (.tup (.cons (.int 0) .nil))) (.cons (.slc (.var 2) (.some (.int 1)) .none) (.cons (.bcall .list (.cons (.var 2) .nil)) (.cons .non (.cons (.tup .nil) (.cons (.int 0) (.cons (.str "") (.cons (.dnew .k) .nil))))))))))) (.cons (.for_ (.name 4) (.seq (.tup (.cons (.call "_law_take" (S_l_take c) (.cons (.var 0) (.cons (.bcall .max (.cons (.int 1) (.cons (.idx (.var 1) (.int 0)) .nil))) .nil))) (.cons (.idx (.var 1) (.int 0)) (.cons (.neg (.int 1)) (.cons (.bl true) (.cons .non (.cons (.str "0") (.cons (.tup (.cons (.int 0) .nil)) .nil))))))))) (.cons (.asg (.name 5) (.call "_law_take" (S_l_take c) (.cons (.var 0) (.cons (.bin .Add (.bcall .len (.cons (.var 2) .nil)) (.int 1)) .nil)))) (.cons (.expr (.bm .append (.var 3) (.cons (.bin .Add (.bin .Add (.slc (.var 2) .none (.some (.var 5))) (.tup (.cons (.var 4) .nil))) (.slc (.var 2) (.some (.bin .Add (.var 5) (.int 1))) .none)) .nil))) .nil))) (.cons (.ret (.var 3)) .nil)))
theorem wp_l_bent (c : Cs) {p : Addr} {n : Int} {ks bs spots : List D} {M : Mp} {Q : DQ} (hp : M p = some .pot) (n0 : 0 ≤ n) (n1 : n ≤ 60) (hs : ∀ x ∈ spots, ∃ i : Int, x = .int i) (zs : spots.length ≤ 60)
    (h : ∀ M' q items, Keep M M' → M q = none → M' q = some (.lst items) → (∀ x ∈ items, kns x M') → items.length ≤ 20 → Q (.ref q) M') :
    (ir_l_bent c).wp (bodyEnds Q) [some (.ref p), some (meshT n ks bs), some (.tup spots), none, none, none] M := by
  have ks0 : ∀ x ∈ spots, ∀ M, kn x M := fun x hx M => by obtain ⟨i, rfl⟩ := hs x hx; exact kn_int
  simp only [ir_l_bent, meshT, Ss.wp, S.wp, E.wp, E.wpT, Es.wp, Es.wpV, Es.wpT, Oe.wpO, Oe.wpT, Wk.wp, wSeq, wRet, wRetN, wNext, wNever, wDrop, wAsg, wIfS, wFor, wPar, wPar3, wFldS, wSetI, wSetK, wDnew, wMeth, wBm, wAndV, wOrV, wNotV, wAnd, wOr, wNot, wTest, wTru, wIf, w1, w2, w3, wVar, wC, wNil, wCons, wTup, wLst, wCall, wCallK, wO0, wO1, wSl, wLc, wISeq, wIR1, wIR2, wIZip, wIStr, wIEn, wDc, DcK.emp, Wk.wp, binF, cmpF, isaD, negD, Blt.spec, Bm.spec, Bm.ty, List.getElem?_cons_zero, List.getElem?_cons_succ, Option.some.injEq, exists_eq_left', exists_eq_left, exists_and_left, List.set_cons_zero, List.set_cons_succ, asn_name, asn_tup, asns_nil, asns_name, wipeD, tru_bl, tru_int, tru_non, tru_tup, bodyEnds, List.map_cons, List.map_nil, ↓reduceIte, Bool.false_eq_true, and_true, true_and, D.str.injEq, D.int.injEq, D.ref.injEq, D.tup.injEq, D.bl.injEq, add_ii, add_ss, add_tt, mul_ii, int_ii, abs_i, int_i, int_b, eq_ii, eq_ss, lt_ii, le_ii, gt_ii, ge_ii, ix_0, ix_1, ix_2, len_tt, tup_n]
  refine ⟨by simp [sizeLine_eq], by rw [sizeLine_eq]; simp; omega, ?_⟩
  refine slD_t (cut_one spots) ?_
  refine .inl ⟨_, spots, rfl, .inl rfl, fun l hl => ?_⟩
  refine ⟨by simp [sizeLine_eq], fun dq hdq => ⟨by simp [sizeLine_eq], fun fq hfq => ?_⟩⟩
  have k1 : Keep M (up (up M l (.lst spots)) dq (.dK [])) := (Keep.new hl).trans (.new hdq)
  have nq : M fq = none := k1.none hfq
  have k2 : Keep M (up (up (up M l (.lst spots)) dq (.dK [])) fq (.lst [D.tup spots, D.tup (spots ++ [D.int 0]), D.tup (List.drop 1 spots), D.ref l, D.non, D.tup [], D.int 0, D.str (Str.ofString ""), D.ref dq])) := k1.trans (.new hfq)
  have hq2 : up (up (up M l (.lst spots)) dq (.dK [])) fq (.lst [D.tup spots, D.tup (spots ++ [D.int 0]), D.tup (List.drop 1 spots), D.ref l, D.non, D.tup [], D.int 0, D.str (Str.ofString ""), D.ref dq]) fq = some (.lst [D.tup spots, D.tup (spots ++ [D.int 0]), D.tup (List.drop 1 spots), D.ref l, D.non, D.tup [], D.int 0, D.str (Str.ofString ""), D.ref dq]) := up_same
  have hd2 : up (up (up M l (.lst spots)) dq (.dK [])) fq (.lst [D.tup spots, D.tup (spots ++ [D.int 0]), D.tup (List.drop 1 spots), D.ref l, D.non, D.tup [], D.int 0, D.str (Str.ofString ""), D.ref dq]) dq = some (.dK []) := Keep.new hfq _ _ up_same
  have hl2 : up (up (up M l (.lst spots)) dq (.dK [])) fq (.lst [D.tup spots, D.tup (spots ++ [D.int 0]), D.tup (List.drop 1 spots), D.ref l, D.non, D.tup [], D.int 0, D.str (Str.ofString ""), D.ref dq]) l = some (.lst spots) := Keep.new hfq _ _ (Keep.new hdq _ _ up_same)
  generalize up (up (up M l (.lst spots)) dq (.dK [])) fq (.lst [D.tup spots, D.tup (spots ++ [D.int 0]), D.tup (List.drop 1 spots), D.ref l, D.non, D.tup [], D.int 0, D.str (Str.ofString ""), D.ref dq]) = M1 at k2 hq2 hd2 hl2 ⊢
  have kn1 : ∀ x ∈ [D.tup spots, D.tup (spots ++ [D.int 0]), D.tup (List.drop 1 spots), D.ref l, D.non, D.tup [], D.int 0, D.str (Str.ofString ""), D.ref dq], kns x M1 := fun x hx => by
    simp only [List.mem_cons, List.not_mem_nil, or_false] at hx
    rcases hx with rfl | rfl | rfl | rfl | rfl | rfl | rfl | rfl | rfl
    · exact kns_tup fun x hx => ks0 x hx _
    · refine kns_tup fun x hx => ?_
      rcases List.mem_append.mp hx with hx | hx
      · exact ks0 x hx _
      · rw [List.mem_singleton.mp hx]; exact kn_int
    · exact kns_tup fun x hx => ks0 x (List.mem_of_mem_drop hx) _
    · exact kns_flat ⟨"list", by show kindO (M1 l) = _; rw [hl2]; rfl⟩ (fun xs e => by cases e)
    · exact kns_flat kn_non (fun xs e => by cases e)
    · exact kns_tup fun x hx => by cases hx
    · exact kns_flat kn_int (fun xs e => by cases e)
    · exact kns_flat kn_str (fun xs e => by cases e)
    · exact kns_flat ⟨"dict", by show kindO (M1 dq) = _; rw [hd2]; rfl⟩ (fun xs e => by cases e)
  refine ⟨1, n, rfl, ?_⟩
  generalize hm : (if n > 1 then n else 1) = m
  have m0 : 0 < m := by rw [← hm]; split <;> omega
  have m1 : m ≤ 60 := by rw [← hm]; split <;> omega
  refine ⟨p, m, rfl, k2 _ _ hp, m0, by omega, fun r r0 r1 => ⟨by simp [sizeLine_eq], by simp [sizeLine_eq], _, seqT_t, ?_⟩⟩
  have ko : ∀ x ∈ [D.int r, D.int n, D.int (-1), D.bl true, D.non, D.str (Str.ofString "0"), D.tup [D.int 0]], ∀ M, kn x M := fun x hx M => by
    simp only [List.mem_cons, List.not_mem_nil, or_false] at hx
    rcases hx with rfl | rfl | rfl | rfl | rfl | rfl | rfl <;> simp
  generalize hod : [D.int r, D.int n, D.int (-1), D.bl true, D.non, D.str (Str.ofString "0"), D.tup [D.int 0]] = odds at ko ⊢
  have zo : odds.length = 7 := by rw [← hod]; rfl
  refine forGo_pos (T := ⟨odds, fun _ => True⟩) (fun done ρ M2 => Keep M M2 ∧ (∃ items, M2 fq = some (.lst items) ∧ (∀ x ∈ items, kns x M2) ∧ items.length ≤ 9 + done.length) ∧ ∃ v4 v5, ρ = [some (.ref p), some (.tup [.int n, .tup ks, .tup bs]), some (.tup spots), some (.ref fq), v4, v5]) (fun _ _ _ _ => trivial) odds [] _ M1 ⟨k2, ⟨_, hq2, kn1, by simp⟩, _, _, rfl⟩ (fun x pre post e ρ M2 k hJ hk => ?_) fun ρ M2 hJ => ?_
  · obtain ⟨k3, ⟨items, hq3, kn3, l3⟩, v4, v5, rfl⟩ := hJ
    rw [List.nil_append] at l3 hk
    have hx : ∀ M, kn x M := fun M => ko x (by rw [e]; simp) M
    refine ⟨_, rfl, ?_⟩
    simp only [Ss.wp, S.wp, E.wp, E.wpT, Es.wp, Es.wpV, Es.wpT, Oe.wpO, Oe.wpT, Wk.wp, wSeq, wRet, wRetN, wNext, wNever, wDrop, wAsg, wIfS, wFor, wPar, wPar3, wFldS, wSetI, wSetK, wDnew, wMeth, wBm, wAndV, wOrV, wNotV, wAnd, wOr, wNot, wTest, wTru, wIf, w1, w2, w3, wVar, wC, wNil, wCons, wTup, wLst, wCall, wCallK, wO0, wO1, wSl, wLc, wISeq, wIR1, wIR2, wIZip, wIStr, wIEn, wDc, DcK.emp, Wk.wp, binF, cmpF, isaD, negD, Blt.spec, Bm.spec, Bm.ty, List.getElem?_cons_zero, List.getElem?_cons_succ, Option.some.injEq, exists_eq_left', exists_eq_left, exists_and_left, List.set_cons_zero, List.set_cons_succ, asn_name, asn_tup, asns_nil, asns_name, wipeD, tru_bl, tru_int, tru_non, tru_tup, bodyEnds, List.map_cons, List.map_nil, ↓reduceIte, Bool.false_eq_true, and_true, true_and, D.str.injEq, D.int.injEq, D.ref.injEq, D.tup.injEq, D.bl.injEq, add_ii, add_ss, add_tt, mul_ii, int_ii, abs_i, int_i, int_b, eq_ii, eq_ss, lt_ii, le_ii, gt_ii, ge_ii, ix_0, ix_1, ix_2, len_tt, tup_n]
    refine ⟨p, _, rfl, k3 _ _ hp, by omega, by omega, fun at_ a0 a1 => ?_⟩
    obtain ⟨at_, rfl⟩ := Int.eq_ofNat_of_zero_le a0
    refine ⟨.inl ⟨rfl, _, hq3⟩, ?_⟩
    refine ⟨_, rfl, slD_t (ds' := spots.take at_) (cut_take (by omega)) ?_⟩
    simp only [Ss.wp, S.wp, E.wp, E.wpT, Es.wp, Es.wpV, Es.wpT, Oe.wpO, Oe.wpT, Wk.wp, wSeq, wRet, wRetN, wNext, wNever, wDrop, wAsg, wIfS, wFor, wPar, wPar3, wFldS, wSetI, wSetK, wDnew, wMeth, wBm, wAndV, wOrV, wNotV, wAnd, wOr, wNot, wTest, wTru, wIf, w1, w2, w3, wVar, wC, wNil, wCons, wTup, wLst, wCall, wCallK, wO0, wO1, wSl, wLc, wISeq, wIR1, wIR2, wIZip, wIStr, wIEn, wDc, DcK.emp, Wk.wp, binF, cmpF, isaD, negD, Blt.spec, Bm.spec, Bm.ty, List.getElem?_cons_zero, List.getElem?_cons_succ, Option.some.injEq, exists_eq_left', exists_eq_left, exists_and_left, List.set_cons_zero, List.set_cons_succ, asn_name, asn_tup, asns_nil, asns_name, wipeD, tru_bl, tru_int, tru_non, tru_tup, bodyEnds, List.map_cons, List.map_nil, ↓reduceIte, Bool.false_eq_true, and_true, true_and, D.str.injEq, D.int.injEq, D.ref.injEq, D.tup.injEq, D.bl.injEq, add_ii, add_ss, add_tt, mul_ii, int_ii, abs_i, int_i, int_b, eq_ii, eq_ss, lt_ii, le_ii, gt_ii, ge_ii, ix_0, ix_1, ix_2, len_tt, tup_n]
    refine ⟨by simp [sizeLine_eq], by rw [sizeLine_eq, List.length_take]; simp; omega, ?_⟩
    refine slD_t rfl ?_
    simp only [Ss.wp, S.wp, E.wp, E.wpT, Es.wp, Es.wpV, Es.wpT, Oe.wpO, Oe.wpT, Wk.wp, wSeq, wRet, wRetN, wNext, wNever, wDrop, wAsg, wIfS, wFor, wPar, wPar3, wFldS, wSetI, wSetK, wDnew, wMeth, wBm, wAndV, wOrV, wNotV, wAnd, wOr, wNot, wTest, wTru, wIf, w1, w2, w3, wVar, wC, wNil, wCons, wTup, wLst, wCall, wCallK, wO0, wO1, wSl, wLc, wISeq, wIR1, wIR2, wIZip, wIStr, wIEn, wDc, DcK.emp, Wk.wp, binF, cmpF, isaD, negD, Blt.spec, Bm.spec, Bm.ty, List.getElem?_cons_zero, List.getElem?_cons_succ, Option.some.injEq, exists_eq_left', exists_eq_left, exists_and_left, List.set_cons_zero, List.set_cons_succ, asn_name, asn_tup, asns_nil, asns_name, wipeD, tru_bl, tru_int, tru_non, tru_tup, bodyEnds, List.map_cons, List.map_nil, ↓reduceIte, Bool.false_eq_true, and_true, true_and, D.str.injEq, D.int.injEq, D.ref.injEq, D.tup.injEq, D.bl.injEq, add_ii, add_ss, add_tt, mul_ii, int_ii, abs_i, int_i, int_b, eq_ii, eq_ss, lt_ii, le_ii, gt_ii, ge_ii, ix_0, ix_1, ix_2, len_tt, tup_n]
    refine ⟨?_, ?_⟩
    · have : (cutL spots (some ((at_ : Int) + 1)) none).length ≤ spots.length := by
        unfold cutL
        rw [List.length_take, List.length_drop]
        omega
      rw [sizeLine_eq, List.length_append, List.length_take]
      simp
      omega
    · have zi : pre.length ≤ 6 := by
        have := congrArg List.length e
        rw [List.length_append, List.length_cons] at this
        omega
      refine ⟨fq, items, _, rfl, rfl, hq3, by rw [sizeLine_eq]; omega, hk _ _ ⟨k3.put nq, ⟨_, up_same, fun y hy => ?_, ?_⟩, _, _, rfl⟩⟩
      · rcases List.mem_append.mp hy with hy | hy
        · exact kns_put hq3 (kn3 y hy)
        · rw [List.mem_singleton.mp hy]
          refine kns_tup fun z hz => ?_
          rcases List.mem_append.mp hz with hz | hz
          · rcases List.mem_append.mp hz with hz | hz
            · exact ks0 z (List.mem_of_mem_take hz) _
            · rw [List.mem_singleton.mp hz]; exact hx _
          · unfold cutL at hz
            exact ks0 z (List.mem_of_mem_drop (List.mem_of_mem_take hz)) _
      · rw [List.length_append, List.length_append, List.length_singleton, List.length_singleton]
        omega
  · obtain ⟨k3, ⟨items, hq3, kn3, l3⟩, v4, v5, rfl⟩ := hJ
    rw [List.nil_append] at l3
    simp only [Ss.wp, S.wp, E.wp, E.wpT, Es.wp, Es.wpV, Es.wpT, Oe.wpO, Oe.wpT, Wk.wp, wSeq, wRet, wRetN, wNext, wNever, wDrop, wAsg, wIfS, wFor, wPar, wPar3, wFldS, wSetI, wSetK, wDnew, wMeth, wBm, wAndV, wOrV, wNotV, wAnd, wOr, wNot, wTest, wTru, wIf, w1, w2, w3, wVar, wC, wNil, wCons, wTup, wLst, wCall, wCallK, wO0, wO1, wSl, wLc, wISeq, wIR1, wIR2, wIZip, wIStr, wIEn, wDc, DcK.emp, Wk.wp, binF, cmpF, isaD, negD, Blt.spec, Bm.spec, Bm.ty, List.getElem?_cons_zero, List.getElem?_cons_succ, Option.some.injEq, exists_eq_left', exists_eq_left, exists_and_left, List.set_cons_zero, List.set_cons_succ, asn_name, asn_tup, asns_nil, asns_name, wipeD, tru_bl, tru_int, tru_non, tru_tup, bodyEnds, List.map_cons, List.map_nil, ↓reduceIte, Bool.false_eq_true, and_true, true_and, D.str.injEq, D.int.injEq, D.ref.injEq, D.tup.injEq, D.bl.injEq, add_ii, add_ss, add_tt, mul_ii, int_ii, abs_i, int_i, int_b, eq_ii, eq_ss, lt_ii, le_ii, gt_ii, ge_ii, ix_0, ix_1, ix_2, len_tt, tup_n]
    exact h M2 fq items k3 nq hq3 kn3 (by omega)
/-! ### a net drawn back -/
def spA (vals : List Int) (i : Int) : Int := vals.getD i.toNat 0
theorem ix_vals {vals : List Int} {i : Int} {M : Mp} {Q : DQ} (i0 : 0 ≤ i) (i1 : i < vals.length) (q : Q (.int (spA vals i)) M) : ixD (.tup (vals.map D.int)) (.int i) M Q := by
  obtain ⟨k, rfl⟩ := Int.eq_ofNat_of_zero_le i0
  have hk : k < vals.length := by omega
  refine ix_t k (by rw [List.getElem?_map, List.getElem?_eq_getElem hk]; rfl) ?_
  unfold spA at q
  rw [Int.toNat_natCast, List.getD_eq_getElem?_getD, List.getElem?_eq_getElem hk] at q
  exact q
structure Drawn (vals : List Int) (many : Int) (from_ acc : List D) : Prop where
  nd : acc.Nodup
  each : ∀ x ∈ acc, ∃ nm i j, x = tie nm [i, j] ∧ nameS nm = true ∧ 0 ≤ i ∧ i < many ∧ 0 ≤ j ∧ j < many ∧ tie nm [spA vals i, spA vals j] ∈ from_
def rowF (vals : List Int) (nm : Str) (s e one : Int) : D → Option D
  | .int two => if (decide (spA vals one = s) && decide (spA vals two = e)) = true then some (tie nm [one, two]) else none
  | _ => none
theorem rowF_eq {vals : List Int} {nm : Str} {s e one : Int} {d x : D} (h : rowF vals nm s e one d = some x) : ∃ two, d = .int two ∧ x = tie nm [one, two] ∧ spA vals one = s ∧ spA vals two = e := by
  unfold rowF at h
  split at h
  · rename_i two
    split at h
    · rename_i q
      cases h
      rw [Bool.and_eq_true] at q
      exact ⟨two, rfl, rfl, of_decide_eq_true q.1, of_decide_eq_true q.2⟩
    · cases h
  · cases h
theorem row_nodup (vals : List Int) (nm : Str) (s e one many : Int) : ((rngI 0 many).filterMap (rowF vals nm s e one)).Nodup := by
  refine List.pairwise_filterMap.mpr ((rng_pair many).imp fun {x y} h u hu v hv => ?_)
  obtain ⟨i, j, rfl, rfl, hij⟩ := h
  obtain ⟨a, ea, rfl, _⟩ := rowF_eq hu
  obtain ⟨b, eb, rfl, _⟩ := rowF_eq hv
  cases ea
  cases eb
  refine tie_ne (.inr fun q => ?_)
  injection q with _ q
  injection q with q _
  omega
def labF (vals : List Int) (nm : Str) (s : Int) : D → Option D
  | .int one => if decide (spA vals one = s) = true then some (tie nm [one]) else none
  | _ => none
theorem labF_eq {vals : List Int} {nm : Str} {s : Int} {d x : D} (h : labF vals nm s d = some x) : ∃ one, d = .int one ∧ x = tie nm [one] ∧ spA vals one = s := by
  unfold labF at h
  split at h
  · rename_i one
    split at h
    · rename_i q
      cases h
      exact ⟨one, rfl, rfl, of_decide_eq_true q⟩
    · cases h
  · cases h
theorem lab_nodup (vals : List Int) (nm : Str) (s many : Int) : ((rngI 0 many).filterMap (labF vals nm s)).Nodup := by
  refine List.pairwise_filterMap.mpr ((rng_pair many).imp fun {x y} h u hu v hv => ?_)
  obtain ⟨i, j, rfl, rfl, hij⟩ := h
  obtain ⟨a, ea, rfl, _⟩ := labF_eq hu
  obtain ⟨b, eb, rfl, _⟩ := labF_eq hv
  cases ea
  cases eb
  refine tie_ne (.inr fun q => ?_)
  injection q with q _
  omega
structure Labd (vals : List Int) (many : Int) (from_ acc : List D) : Prop where
  nd : acc.Nodup
  each : ∀ x ∈ acc, ∃ nm i, x = tie nm [i] ∧ nameS nm = true ∧ 0 ≤ i ∧ i < many ∧ tie nm [spA vals i] ∈ from_
theorem Labd.more {vals : List Int} {many : Int} {from_ acc : List D} {nm : Str} {s : Int} (h : Labd vals many from_ acc) (hn : nameS nm = true) (hk : tie nm [s] ∉ from_) : Labd vals many (from_ ++ [tie nm [s]]) (acc ++ (rngI 0 many).filterMap (labF vals nm s)) := by
  refine ⟨List.nodup_append.mpr ⟨h.nd, lab_nodup vals nm s many, fun a ha b hb e => ?_⟩, fun x hx => ?_⟩
  · subst e
    obtain ⟨n1, i, rfl, _, _, _, hm⟩ := h.each a ha
    obtain ⟨d, _, hd⟩ := List.mem_filterMap.mp hb
    obtain ⟨one, _, e, hs⟩ := labF_eq hd
    have e' : n1 = nm ∧ i = one := by
      unfold tie at e
      injection e with e
      injection e with e1 e2
      injection e1 with e1
      injection e2 with e2 _
      injection e2 with e2
      exact ⟨e1, e2⟩
    rw [e'.1, e'.2, hs] at hm
    exact hk hm
  · rcases List.mem_append.mp hx with hx | hx
    · obtain ⟨n1, i, e, h1, h2, h3, h4⟩ := h.each x hx
      exact ⟨n1, i, e, h1, h2, h3, List.mem_append_left _ h4⟩
    · obtain ⟨d, hdm, hd⟩ := List.mem_filterMap.mp hx
      obtain ⟨one, rfl, e, hs⟩ := labF_eq hd
      obtain ⟨i, ei, i0, i1⟩ := rng_mem hdm
      cases ei
      exact ⟨nm, one, e, hn, i0, i1, by rw [hs]; exact List.mem_append_right _ (by simp)⟩
/-- the ties of one link, up to some of its starts -/
structure DrawnK (vals : List Int) (many : Int) (from_ : List D) (nm : Str) (s e : Int) (ones acc : List D) : Prop where
  nd : acc.Nodup
  each : ∀ x ∈ acc, ∃ n1 i j, x = tie n1 [i, j] ∧ nameS n1 = true ∧ 0 ≤ i ∧ i < many ∧ 0 ≤ j ∧ j < many ∧ (tie n1 [spA vals i, spA vals j] ∈ from_ ∨ (n1 = nm ∧ spA vals i = s ∧ spA vals j = e ∧ .int i ∈ ones))
theorem tie2_inj {n1 n2 : Str} {a b c d : Int} (e : tie n1 [a, b] = tie n2 [c, d]) : n1 = n2 ∧ a = c ∧ b = d := by
  unfold tie at e
  injection e with e
  injection e with e1 e2
  injection e1 with e1
  injection e2 with e2 e3
  injection e2 with e2
  injection e3 with e3 _
  injection e3 with e3
  exact ⟨e1, e2, e3⟩
theorem DrawnK.more {vals : List Int} {many : Int} {from_ ones acc : List D} {nm : Str} {s e one : Int} (h : DrawnK vals many from_ nm s e ones acc) (hn : nameS nm = true) (hk : tie nm [s, e] ∉ from_) (ho : .int one ∉ ones) (o0 : 0 ≤ one) (o1 : one < many) :
    DrawnK vals many from_ nm s e (ones ++ [.int one]) (acc ++ (rngI 0 many).filterMap (rowF vals nm s e one)) := by
  refine ⟨List.nodup_append.mpr ⟨h.nd, row_nodup vals nm s e one many, fun a ha b hb q => ?_⟩, fun x hx => ?_⟩
  · subst q
    obtain ⟨n1, i, j, rfl, _, _, _, _, _, hm⟩ := h.each a ha
    obtain ⟨d, _, hd⟩ := List.mem_filterMap.mp hb
    obtain ⟨two, _, q, hs, he⟩ := rowF_eq hd
    obtain ⟨rfl, rfl, rfl⟩ := tie2_inj q
    rcases hm with hm | ⟨_, _, _, hm⟩
    · rw [hs, he] at hm; exact hk hm
    · exact ho hm
  · rcases List.mem_append.mp hx with hx | hx
    · obtain ⟨n1, i, j, q, h1, h2, h3, h4, h5, h6⟩ := h.each x hx
      exact ⟨n1, i, j, q, h1, h2, h3, h4, h5, h6.imp id fun ⟨a, b, c, d⟩ => ⟨a, b, c, List.mem_append_left _ d⟩⟩
    · obtain ⟨d, hdm, hd⟩ := List.mem_filterMap.mp hx
      obtain ⟨two, rfl, q, hs, he⟩ := rowF_eq hd
      obtain ⟨i, ei, i0, i1⟩ := rng_mem hdm
      cases ei
      exact ⟨nm, one, two, q, hn, o0, o1, i0, i1, .inr ⟨rfl, hs, he, by simp⟩⟩
theorem DrawnK.done {vals : List Int} {many : Int} {from_ ones acc : List D} {nm : Str} {s e : Int} (h : DrawnK vals many from_ nm s e ones acc) : Drawn vals many (from_ ++ [tie nm [s, e]]) acc := ⟨h.nd, fun x hx => by
  obtain ⟨n1, i, j, q, h1, h2, h3, h4, h5, h6⟩ := h.each x hx
  refine ⟨n1, i, j, q, h1, h2, h3, h4, h5, ?_⟩
  rcases h6 with h6 | ⟨rfl, rfl, rfl, _⟩
  · exact List.mem_append_left _ h6
  · exact List.mem_append_right _ (by simp)⟩
theorem Drawn.start {vals : List Int} {many : Int} {from_ acc : List D} {nm : Str} {s e : Int} (h : Drawn vals many from_ acc) : DrawnK vals many from_ nm s e [] acc := ⟨h.nd, fun x hx => by
  obtain ⟨n1, i, j, q, h1, h2, h3, h4, h5, h6⟩ := h.each x hx
  exact ⟨n1, i, j, q, h1, h2, h3, h4, h5, .inl h6⟩⟩
def S_l_drawn_back (_ : Cs) : Spec := fun ds M Q => ∃ p n ks bs many, ds = [.ref p, meshT n ks bs, .int many] ∧ M p = some .pot ∧ NetOk n ks bs ∧ ks.length ≤ 14 ∧ bs.length ≤ 3 ∧ 0 ≤ many ∧ many ≤ 6 ∧ (0 < many → 0 < n) ∧
  ∀ M' ks' bs' (vals : List Int), Keep M M' → NetOk many ks' bs' → (vals.length : Int) = many → (∀ i ∈ vals, 0 ≤ i ∧ i < n) → Q (.tup [meshT many ks' bs', .tup (vals.map D.int)]) M'
abbrev N_l_drawn_back : List Str := ["_law_pot_here", "_law_mesh_here", "_law_many", "_law_spots", "_law_ties", "_law_named", "_law_called", "_law_start", "_law_end", "_law_one", "_law_at", "_law_tie", "_law_knot_here", "_law_two"]
def ir_l_drawn_back (c : Cs) : Ss := (.cons (.asg (.name 3) (.bcall .tuple (.cons (.lc [("_law_knot_here", 12)] (.name 12) (.r1 (.var 2)) .none (.call "_law_take" (S_l_take c) (.cons (.var 0) (.cons (.idx (.var 1) (.int 0)) .nil)))) .nil))) (.cons (.par 4 5 (.cons (.lst .nil) (.cons (.lst .nil) .nil))) (.cons (.for_ (.tup (.cons (.name 6) (.cons (.name 7) (.cons (.name 8) .nil)))) (.seq (.idx (.var 1) (.int 1))) (.cons (.for_ (.name 9) (.r1 (.var 2)) (.cons (.expr (.bm .extend (.var 4) (.cons (.lc [("_law_two", 13)] (.name 13) (.r1 (.var 2)) (.some (.bop .And (.cons (.cmp .Eq (.idx (.var 3) (.var 9)) (.var 7)) (.cons (.cmp .Eq (.idx (.var 3) (.var 13)) (.var 8)) .nil)))) (.tup (.cons (.var 6) (.cons (.var 9) (.cons (.var 13) .nil))))) .nil))) .nil)) .nil)) (.cons (.for_ (.tup (.cons (.name 6) (.cons (.name 10) .nil))) (.seq (.idx (.var 1) (.int 2))) (.cons (.expr (.bm .extend (.var 5) (.cons (.lc [("_law_one", 9)] (.name 9) (.r1 (.var 2)) (.some (.cmp .Eq (.idx (.var 3) (.var 9)) (.var 10))) (.tup (.cons (.var 6) (.cons (.var 9) .nil)))) .nil))) .nil)) (.cons (.setLc 4 [("_law_tie", 11)] (.name 11) (.seq (.var 4)) (.some (.cmp .Gt (.call "_law_take" (S_l_take c) (.cons (.var 0) (.cons (.int 3) .nil))) (.int 0))) (.var 11)) (.cons (.ret (.tup (.cons (.tup (.cons (.var 2) (.cons (.bcall .tuple (.cons (.bcall .sorted (.cons (.var 4) .nil)) .nil)) (.cons (.bcall .tuple (.cons (.bcall .sorted (.cons (.var 5) .nil)) .nil)) .nil)))) (.cons (.var 3) .nil)))) .nil))))))
theorem wp_l_drawn_back (c : Cs) {p : Addr} {n many : Int} {ks bs : List D} {M : Mp} {Q : DQ} (hp : M p = some .pot) (ok : NetOk n ks bs) (zk : ks.length ≤ 14) (zb : bs.length ≤ 3) (m0 : 0 ≤ many) (m6 : many ≤ 6) (hn : 0 < many → 0 < n)
    (h : ∀ M' ks' bs' (vals : List Int), Keep M M' → NetOk many ks' bs' → (vals.length : Int) = many → (∀ i ∈ vals, 0 ≤ i ∧ i < n) → Q (.tup [meshT many ks' bs', .tup (vals.map D.int)]) M') :
    (ir_l_drawn_back c).wp (bodyEnds Q) [some (.ref p), some (meshT n ks bs), some (.int many), none, none, none, none, none, none, none, none, none, none, none] M := by
  have sm : small62 many := by unfold small62; omega
  have zr : (rngI 0 many).length ≤ sizeLine := by rw [rng_len, sizeLine_eq]; omega
  simp only [ir_l_drawn_back, meshT, Ss.wp, S.wp, E.wp, E.wpT, Es.wp, Es.wpV, Es.wpT, Oe.wpO, Oe.wpT, Wk.wp, wSeq, wRet, wRetN, wNext, wNever, wDrop, wAsg, wIfS, wFor, wPar, wPar3, wFldS, wSetI, wSetK, wDnew, wMeth, wBm, wAndV, wOrV, wNotV, wAnd, wOr, wNot, wTest, wTru, wIf, w1, w2, w3, wVar, wC, wNil, wCons, wTup, wLst, wCall, wCallK, wO0, wO1, wSl, wLc, wISeq, wIR1, wIR2, wIZip, wIStr, wIEn, wDc, DcK.emp, Wk.wp, binF, cmpF, isaD, negD, Blt.spec, Bm.spec, Bm.ty, List.getElem?_cons_zero, List.getElem?_cons_succ, Option.some.injEq, exists_eq_left', exists_eq_left, exists_and_left, List.set_cons_zero, List.set_cons_succ, asn_name, asn_tup, asns_nil, asns_name, wipeD, tru_bl, tru_int, tru_non, tru_tup, bodyEnds, List.map_cons, List.map_nil, ↓reduceIte, Bool.false_eq_true, and_true, true_and, D.str.injEq, D.int.injEq, D.ref.injEq, D.tup.injEq, D.bl.injEq, add_ii, add_ss, add_tt, mul_ii, int_ii, abs_i, int_i, int_b, eq_ii, eq_ss, lt_ii, le_ii, gt_ii, ge_ii, ix_0, ix_1, ix_2, len_tt, tup_n]
  refine ⟨sm, zr, ?_⟩
  refine lcGo_inv (T := ⟨rngI 0 many, fun _ => True⟩) (fun done acc M2 => Keep M M2 ∧ ∃ vals : List Int, acc = vals.map D.int ∧ vals.length = done.length ∧ ∀ i ∈ vals, 0 ≤ i ∧ i < n) (fun _ _ _ _ => trivial) _ [] [] M ⟨.refl _, [], rfl, rfl, fun i hi => by cases hi⟩ (fun x hx done acc M2 k hJ hk => ?_) fun acc M2 hJ q hq => ?_
  · obtain ⟨k2, vals, rfl, hl, hv⟩ := hJ
    obtain ⟨i, _, i0, i1⟩ := rng_mem hx
    have n0 := hn (by omega)
    have := ok.k1
    refine ⟨_, rfl, yes_if ?_⟩
    simp only [Ss.wp, S.wp, E.wp, E.wpT, Es.wp, Es.wpV, Es.wpT, Oe.wpO, Oe.wpT, Wk.wp, wSeq, wRet, wRetN, wNext, wNever, wDrop, wAsg, wIfS, wFor, wPar, wPar3, wFldS, wSetI, wSetK, wDnew, wMeth, wBm, wAndV, wOrV, wNotV, wAnd, wOr, wNot, wTest, wTru, wIf, w1, w2, w3, wVar, wC, wNil, wCons, wTup, wLst, wCall, wCallK, wO0, wO1, wSl, wLc, wISeq, wIR1, wIR2, wIZip, wIStr, wIEn, wDc, DcK.emp, Wk.wp, binF, cmpF, isaD, negD, Blt.spec, Bm.spec, Bm.ty, List.getElem?_cons_zero, List.getElem?_cons_succ, Option.some.injEq, exists_eq_left', exists_eq_left, exists_and_left, List.set_cons_zero, List.set_cons_succ, asn_name, asn_tup, asns_nil, asns_name, wipeD, tru_bl, tru_int, tru_non, tru_tup, bodyEnds, List.map_cons, List.map_nil, ↓reduceIte, Bool.false_eq_true, and_true, true_and, D.str.injEq, D.int.injEq, D.ref.injEq, D.tup.injEq, D.bl.injEq, add_ii, add_ss, add_tt, mul_ii, int_ii, abs_i, int_i, int_b, eq_ii, eq_ss, lt_ii, le_ii, gt_ii, ge_ii, ix_0, ix_1, ix_2, len_tt, tup_n]
    refine ⟨p, n, rfl, k2 _ _ hp, n0, by omega, fun r r0 r1 => hk _ _ ⟨k2, vals ++ [r], ?_, ?_, fun i hi => ?_⟩⟩
    · rw [List.map_append]; rfl
    · rw [List.length_append, List.length_append, hl]; rfl
    · rcases List.mem_append.mp hi with hi | hi
      · exact hv i hi
      · rw [List.mem_singleton.mp hi]; exact ⟨r0, r1⟩
  obtain ⟨k2, vals, rfl, hl, hv⟩ := hJ
  rw [List.nil_append, rng_len] at hl
  have hl' : (vals.length : Int) = many := by omega
  have k3 : Keep M (up M2 q (.lst (vals.map D.int))) := k2.trans (.new hq)
  generalize up M2 q (.lst (vals.map D.int)) = M3 at k3 ⊢
  refine ⟨by simp [sizeLine_eq], fun tp htp => ⟨by simp [sizeLine_eq], fun np hnp => ⟨_, _, rfl, ?_⟩⟩⟩
  have ntn : tp ≠ np := fun z => by subst z; rw [up_same] at hnp; cases hnp
  have hnp3 : M3 np = none := by rw [up_ne (Ne.symm ntn)] at hnp; exact hnp
  have k4 : Keep M3 (up (up M3 tp (.lst [])) np (.lst [])) := (Keep.new htp).trans (.new hnp)
  refine ⟨_, seqT_t, ?_⟩
  refine forGo_pos (T := ⟨ks, fun _ => True⟩) (fun done ρ M4 => Keep M3 M4 ∧ (∃ acc, M4 tp = some (.lst acc) ∧ Drawn vals many done acc ∧ acc.length ≤ done.length * 36) ∧ M4 np = some (.lst []) ∧
    ∃ v6 v7 v8 v9, ρ = [some (.ref p), some (.tup [.int n, .tup ks, .tup bs]), some (.int many), some (.tup (vals.map D.int)), some (.ref tp), some (.ref np), v6, v7, v8, v9, none, none, none, none]) (fun _ _ _ _ => trivial) ks [] _ _
    ⟨k4, ⟨[], by rw [up_ne ntn]; exact up_same, ⟨.nil, fun x hx => by cases hx⟩, by simp⟩, up_same, _, _, _, _, rfl⟩ (fun x pre post e ρ M4 k hJ hk => ?_) fun ρ M4 hJ => ?_
  · obtain ⟨k5, ⟨acc, ht, dr, la⟩, hn4, v6, v7, v8, v9, rfl⟩ := hJ
    rw [List.nil_append] at dr la hk
    obtain ⟨nm, is, rfl, el, hnm, hi⟩ := ok.lk.each x (by rw [e]; simp)
    obtain ⟨s, en, rfl⟩ : ∃ i j, is = [i, j] := by
      match is, el with
      | [i, j], _ => exact ⟨i, j, rfl⟩
    have hpre : tie nm [s, en] ∉ pre := fun hm => by
      have nd := ris_nodup ok.lk.rise
      rw [e] at nd
      exact (List.nodup_append.mp nd).2.2 _ hm _ List.mem_cons_self rfl
    have zp : pre.length ≤ 13 := by
      have := congrArg List.length e
      rw [List.length_append, List.length_cons] at this
      omega
    refine ⟨_, rfl, ?_⟩
    simp only [Ss.wp, S.wp, E.wp, E.wpT, Es.wp, Es.wpV, Es.wpT, Oe.wpO, Oe.wpT, Wk.wp, wSeq, wRet, wRetN, wNext, wNever, wDrop, wAsg, wIfS, wFor, wPar, wPar3, wFldS, wSetI, wSetK, wDnew, wMeth, wBm, wAndV, wOrV, wNotV, wAnd, wOr, wNot, wTest, wTru, wIf, w1, w2, w3, wVar, wC, wNil, wCons, wTup, wLst, wCall, wCallK, wO0, wO1, wSl, wLc, wISeq, wIR1, wIR2, wIZip, wIStr, wIEn, wDc, DcK.emp, Wk.wp, binF, cmpF, isaD, negD, Blt.spec, Bm.spec, Bm.ty, List.getElem?_cons_zero, List.getElem?_cons_succ, Option.some.injEq, exists_eq_left', exists_eq_left, exists_and_left, List.set_cons_zero, List.set_cons_succ, asn_name, asn_tup, asns_nil, asns_name, wipeD, tru_bl, tru_int, tru_non, tru_tup, bodyEnds, List.map_cons, List.map_nil, ↓reduceIte, Bool.false_eq_true, and_true, true_and, D.str.injEq, D.int.injEq, D.ref.injEq, D.tup.injEq, D.bl.injEq, add_ii, add_ss, add_tt, mul_ii, int_ii, abs_i, int_i, int_b, eq_ii, eq_ss, lt_ii, le_ii, gt_ii, ge_ii, ix_0, ix_1, ix_2, len_tt, tup_n]
    refine ⟨sm, ?_⟩
    refine forGo_pos (T := ⟨rngI 0 many, fun _ => True⟩) (fun done ρ M5 => Keep M3 M5 ∧ (∃ acc, M5 tp = some (.lst acc) ∧ DrawnK vals many pre nm s en done acc ∧ acc.length ≤ pre.length * 36 + done.length * 6) ∧ M5 np = some (.lst []) ∧
      ∃ v9, ρ = [some (.ref p), some (.tup [.int n, .tup ks, .tup bs]), some (.int many), some (.tup (vals.map D.int)), some (.ref tp), some (.ref np), some (.str nm), some (.int s), some (.int en), v9, none, none, none, none]) (fun _ _ _ _ => trivial) _ [] _ _
      ⟨k5, ⟨acc, ht, dr.start, by simpa using la⟩, hn4, _, rfl⟩ (fun y pre2 post2 e2 ρ M5 k' hJ hk' => ?_) fun ρ M5 hJ => ?_
    · obtain ⟨k6, ⟨acc2, ht5, dk, la2⟩, hn5, v9', rfl⟩ := hJ
      rw [List.nil_append] at dk la2 hk'
      obtain ⟨one, rfl, o0, o1⟩ := rng_mem (x := y) (n := many) (by rw [e2]; simp)
      have hone : D.int one ∉ pre2 := fun hm => by
        have nd : (rngI 0 many).Nodup := ris_nodup (rng_rise many)
        rw [e2] at nd
        exact (List.nodup_append.mp nd).2.2 _ hm _ List.mem_cons_self rfl
      have zp2 : pre2.length ≤ 5 := by
        have := congrArg List.length e2
        rw [List.length_append, List.length_cons, rng_len] at this
        omega
      refine ⟨_, rfl, ?_⟩
      simp only [Ss.wp, S.wp, E.wp, E.wpT, Es.wp, Es.wpV, Es.wpT, Oe.wpO, Oe.wpT, Wk.wp, wSeq, wRet, wRetN, wNext, wNever, wDrop, wAsg, wIfS, wFor, wPar, wPar3, wFldS, wSetI, wSetK, wDnew, wMeth, wBm, wAndV, wOrV, wNotV, wAnd, wOr, wNot, wTest, wTru, wIf, w1, w2, w3, wVar, wC, wNil, wCons, wTup, wLst, wCall, wCallK, wO0, wO1, wSl, wLc, wISeq, wIR1, wIR2, wIZip, wIStr, wIEn, wDc, DcK.emp, Wk.wp, binF, cmpF, isaD, negD, Blt.spec, Bm.spec, Bm.ty, List.getElem?_cons_zero, List.getElem?_cons_succ, Option.some.injEq, exists_eq_left', exists_eq_left, exists_and_left, List.set_cons_zero, List.set_cons_succ, asn_name, asn_tup, asns_nil, asns_name, wipeD, tru_bl, tru_int, tru_non, tru_tup, bodyEnds, List.map_cons, List.map_nil, ↓reduceIte, Bool.false_eq_true, and_true, true_and, D.str.injEq, D.int.injEq, D.ref.injEq, D.tup.injEq, D.bl.injEq, add_ii, add_ss, add_tt, mul_ii, int_ii, abs_i, int_i, int_b, eq_ii, eq_ss, lt_ii, le_ii, gt_ii, ge_ii, ix_0, ix_1, ix_2, len_tt, tup_n]
      refine ⟨.inl ⟨rfl, _, ht5⟩, sm, zr, ?_⟩
      refine lcGo_map (T := ⟨rngI 0 many, fun _ => True⟩) (M0 := M5) (rowF vals nm s en one) (fun _ _ => trivial) _ M5 (.refl _) (fun z hz acc3 M6 kk k7 hkk => ?_) fun M6 k7 r hr => ?_
      · obtain ⟨two, rfl, w0, w1⟩ := rng_mem hz
        refine ⟨_, rfl, ?_⟩
        simp only [Ss.wp, S.wp, E.wp, E.wpT, Es.wp, Es.wpV, Es.wpT, Oe.wpO, Oe.wpT, Wk.wp, wSeq, wRet, wRetN, wNext, wNever, wDrop, wAsg, wIfS, wFor, wPar, wPar3, wFldS, wSetI, wSetK, wDnew, wMeth, wBm, wAndV, wOrV, wNotV, wAnd, wOr, wNot, wTest, wTru, wIf, w1, w2, w3, wVar, wC, wNil, wCons, wTup, wLst, wCall, wCallK, wO0, wO1, wSl, wLc, wISeq, wIR1, wIR2, wIZip, wIStr, wIEn, wDc, DcK.emp, Wk.wp, binF, cmpF, isaD, negD, Blt.spec, Bm.spec, Bm.ty, List.getElem?_cons_zero, List.getElem?_cons_succ, Option.some.injEq, exists_eq_left', exists_eq_left, exists_and_left, List.set_cons_zero, List.set_cons_succ, asn_name, asn_tup, asns_nil, asns_name, wipeD, tru_bl, tru_int, tru_non, tru_tup, bodyEnds, List.map_cons, List.map_nil, ↓reduceIte, Bool.false_eq_true, and_true, true_and, D.str.injEq, D.int.injEq, D.ref.injEq, D.tup.injEq, D.bl.injEq, add_ii, add_ss, add_tt, mul_ii, int_ii, abs_i, int_i, int_b, eq_ii, eq_ss, lt_ii, le_ii, gt_ii, ge_ii, ix_0, ix_1, ix_2, len_tt, tup_n]
        have q := hkk M6 k7
        unfold rowF at q
        refine ix_vals o0 (by omega) ?_
        simp only [Ss.wp, S.wp, E.wp, E.wpT, Es.wp, Es.wpV, Es.wpT, Oe.wpO, Oe.wpT, Wk.wp, wSeq, wRet, wRetN, wNext, wNever, wDrop, wAsg, wIfS, wFor, wPar, wPar3, wFldS, wSetI, wSetK, wDnew, wMeth, wBm, wAndV, wOrV, wNotV, wAnd, wOr, wNot, wTest, wTru, wIf, w1, w2, w3, wVar, wC, wNil, wCons, wTup, wLst, wCall, wCallK, wO0, wO1, wSl, wLc, wISeq, wIR1, wIR2, wIZip, wIStr, wIEn, wDc, DcK.emp, Wk.wp, binF, cmpF, isaD, negD, Blt.spec, Bm.spec, Bm.ty, List.getElem?_cons_zero, List.getElem?_cons_succ, Option.some.injEq, exists_eq_left', exists_eq_left, exists_and_left, List.set_cons_zero, List.set_cons_succ, asn_name, asn_tup, asns_nil, asns_name, wipeD, tru_bl, tru_int, tru_non, tru_tup, bodyEnds, List.map_cons, List.map_nil, ↓reduceIte, Bool.false_eq_true, and_true, true_and, D.str.injEq, D.int.injEq, D.ref.injEq, D.tup.injEq, D.bl.injEq, add_ii, add_ss, add_tt, mul_ii, int_ii, abs_i, int_i, int_b, eq_ii, eq_ss, lt_ii, le_ii, gt_ii, ge_ii, ix_0, ix_1, ix_2, len_tt, tup_n]
        by_cases c1 : spA vals one = s
        · simp only [c1, decide_true, if_true]
          refine ix_vals w0 (by omega) ?_
          simp only [Ss.wp, S.wp, E.wp, E.wpT, Es.wp, Es.wpV, Es.wpT, Oe.wpO, Oe.wpT, Wk.wp, wSeq, wRet, wRetN, wNext, wNever, wDrop, wAsg, wIfS, wFor, wPar, wPar3, wFldS, wSetI, wSetK, wDnew, wMeth, wBm, wAndV, wOrV, wNotV, wAnd, wOr, wNot, wTest, wTru, wIf, w1, w2, w3, wVar, wC, wNil, wCons, wTup, wLst, wCall, wCallK, wO0, wO1, wSl, wLc, wISeq, wIR1, wIR2, wIZip, wIStr, wIEn, wDc, DcK.emp, Wk.wp, binF, cmpF, isaD, negD, Blt.spec, Bm.spec, Bm.ty, List.getElem?_cons_zero, List.getElem?_cons_succ, Option.some.injEq, exists_eq_left', exists_eq_left, exists_and_left, List.set_cons_zero, List.set_cons_succ, asn_name, asn_tup, asns_nil, asns_name, wipeD, tru_bl, tru_int, tru_non, tru_tup, bodyEnds, List.map_cons, List.map_nil, ↓reduceIte, Bool.false_eq_true, and_true, true_and, D.str.injEq, D.int.injEq, D.ref.injEq, D.tup.injEq, D.bl.injEq, add_ii, add_ss, add_tt, mul_ii, int_ii, abs_i, int_i, int_b, eq_ii, eq_ss, lt_ii, le_ii, gt_ii, ge_ii, ix_0, ix_1, ix_2, len_tt, tup_n]
          by_cases c2 : spA vals two = en
          · simp only [c2, decide_true, if_true]
            refine ⟨by simp [sizeLine_eq], ?_⟩
            simpa [c1, c2, tie] using q
          · simp only [c2, decide_false, Bool.false_eq_true, if_false]
            simpa [c1, c2] using q
        · simp only [c1, decide_false, Bool.false_eq_true, if_false]
          simpa [c1] using q
      · have lz : ((rngI 0 many).filterMap (rowF vals nm s en one)).length ≤ 6 := Nat.le_trans (List.length_filterMap_le _ _) (by rw [rng_len]; omega)
        have ntr : tp ≠ r := fun z => by subst z; rw [k7 _ _ ht5] at hr; cases hr
        have nnr : np ≠ r := fun z => by subst z; rw [k7 _ _ hn5] at hr; cases hr
        refine ⟨tp, r, _, _, rfl, rfl, by rw [up_ne ntr]; exact k7 _ _ ht5, up_same, by rw [sizeLine_eq]; omega, hk' _ _ ⟨(k6.trans (k7.trans (.new hr))).put htp, ⟨_, up_same, dk.more hnm hpre hone o0 o1, ?_⟩, ?_, _, rfl⟩⟩
        · rw [List.length_append, List.length_append, List.length_singleton]; omega
        · rw [up_ne (Ne.symm ntn), up_ne nnr]; exact k7 _ _ hn5
    · obtain ⟨k6, ⟨acc2, ht5, dk, la2⟩, hn5, v9', rfl⟩ := hJ
      rw [List.nil_append, rng_len] at la2
      simp only [Ss.wp, S.wp, E.wp, E.wpT, Es.wp, Es.wpV, Es.wpT, Oe.wpO, Oe.wpT, Wk.wp, wSeq, wRet, wRetN, wNext, wNever, wDrop, wAsg, wIfS, wFor, wPar, wPar3, wFldS, wSetI, wSetK, wDnew, wMeth, wBm, wAndV, wOrV, wNotV, wAnd, wOr, wNot, wTest, wTru, wIf, w1, w2, w3, wVar, wC, wNil, wCons, wTup, wLst, wCall, wCallK, wO0, wO1, wSl, wLc, wISeq, wIR1, wIR2, wIZip, wIStr, wIEn, wDc, DcK.emp, Wk.wp, binF, cmpF, isaD, negD, Blt.spec, Bm.spec, Bm.ty, List.getElem?_cons_zero, List.getElem?_cons_succ, Option.some.injEq, exists_eq_left', exists_eq_left, exists_and_left, List.set_cons_zero, List.set_cons_succ, asn_name, asn_tup, asns_nil, asns_name, wipeD, tru_bl, tru_int, tru_non, tru_tup, bodyEnds, List.map_cons, List.map_nil, ↓reduceIte, Bool.false_eq_true, and_true, true_and, D.str.injEq, D.int.injEq, D.ref.injEq, D.tup.injEq, D.bl.injEq, add_ii, add_ss, add_tt, mul_ii, int_ii, abs_i, int_i, int_b, eq_ii, eq_ss, lt_ii, le_ii, gt_ii, ge_ii, ix_0, ix_1, ix_2, len_tt, tup_n]
      refine hk _ M5 ⟨k6, ⟨acc2, ht5, dk.done, ?_⟩, hn5, _, _, _, _, rfl⟩
      rw [List.length_append, List.length_singleton]
      omega
  obtain ⟨k5, ⟨acc, ht, dr, la⟩, hn4, v6, v7, v8, v9, rfl⟩ := hJ
  rw [List.nil_append] at dr la
  simp only [Ss.wp, S.wp, E.wp, E.wpT, Es.wp, Es.wpV, Es.wpT, Oe.wpO, Oe.wpT, Wk.wp, wSeq, wRet, wRetN, wNext, wNever, wDrop, wAsg, wIfS, wFor, wPar, wPar3, wFldS, wSetI, wSetK, wDnew, wMeth, wBm, wAndV, wOrV, wNotV, wAnd, wOr, wNot, wTest, wTru, wIf, w1, w2, w3, wVar, wC, wNil, wCons, wTup, wLst, wCall, wCallK, wO0, wO1, wSl, wLc, wISeq, wIR1, wIR2, wIZip, wIStr, wIEn, wDc, DcK.emp, Wk.wp, binF, cmpF, isaD, negD, Blt.spec, Bm.spec, Bm.ty, List.getElem?_cons_zero, List.getElem?_cons_succ, Option.some.injEq, exists_eq_left', exists_eq_left, exists_and_left, List.set_cons_zero, List.set_cons_succ, asn_name, asn_tup, asns_nil, asns_name, wipeD, tru_bl, tru_int, tru_non, tru_tup, bodyEnds, List.map_cons, List.map_nil, ↓reduceIte, Bool.false_eq_true, and_true, true_and, D.str.injEq, D.int.injEq, D.ref.injEq, D.tup.injEq, D.bl.injEq, add_ii, add_ss, add_tt, mul_ii, int_ii, abs_i, int_i, int_b, eq_ii, eq_ss, lt_ii, le_ii, gt_ii, ge_ii, ix_0, ix_1, ix_2, len_tt, tup_n]
  refine ⟨_, seqT_t, ?_⟩
  refine forGo_pos (T := ⟨bs, fun _ => True⟩) (fun done ρ M5 => Keep M3 M5 ∧ M5 tp = some (.lst acc) ∧ (∃ lac, M5 np = some (.lst lac) ∧ Labd vals many done lac ∧ lac.length ≤ done.length * 6) ∧
    ∃ v6 v10, ρ = [some (.ref p), some (.tup [.int n, .tup ks, .tup bs]), some (.int many), some (.tup (vals.map D.int)), some (.ref tp), some (.ref np), v6, v7, v8, v9, v10, none, none, none]) (fun _ _ _ _ => trivial) bs [] _ _
    ⟨k5, ht, ⟨[], hn4, ⟨.nil, fun x hx => by cases hx⟩, by simp⟩, _, _, rfl⟩ (fun x pre post e ρ M5 k hJ hk => ?_) fun ρ M5 hJ => ?_
  · obtain ⟨k6, ht5, ⟨lac, hn5, lb, ll⟩, v6', v10, rfl⟩ := hJ
    rw [List.nil_append] at lb ll hk
    obtain ⟨nm, is, rfl, el, hnm, hi⟩ := ok.lb.each x (by rw [e]; simp)
    obtain ⟨s, rfl⟩ : ∃ i, is = [i] := by
      match is, el with
      | [i], _ => exact ⟨i, rfl⟩
    have hpre : tie nm [s] ∉ pre := fun hm => by
      have nd := ris_nodup ok.lb.rise
      rw [e] at nd
      exact (List.nodup_append.mp nd).2.2 _ hm _ List.mem_cons_self rfl
    have zp : pre.length ≤ 2 := by
      have := congrArg List.length e
      rw [List.length_append, List.length_cons] at this
      omega
    refine ⟨_, rfl, ?_⟩
    simp only [Ss.wp, S.wp, E.wp, E.wpT, Es.wp, Es.wpV, Es.wpT, Oe.wpO, Oe.wpT, Wk.wp, wSeq, wRet, wRetN, wNext, wNever, wDrop, wAsg, wIfS, wFor, wPar, wPar3, wFldS, wSetI, wSetK, wDnew, wMeth, wBm, wAndV, wOrV, wNotV, wAnd, wOr, wNot, wTest, wTru, wIf, w1, w2, w3, wVar, wC, wNil, wCons, wTup, wLst, wCall, wCallK, wO0, wO1, wSl, wLc, wISeq, wIR1, wIR2, wIZip, wIStr, wIEn, wDc, DcK.emp, Wk.wp, binF, cmpF, isaD, negD, Blt.spec, Bm.spec, Bm.ty, List.getElem?_cons_zero, List.getElem?_cons_succ, Option.some.injEq, exists_eq_left', exists_eq_left, exists_and_left, List.set_cons_zero, List.set_cons_succ, asn_name, asn_tup, asns_nil, asns_name, wipeD, tru_bl, tru_int, tru_non, tru_tup, bodyEnds, List.map_cons, List.map_nil, ↓reduceIte, Bool.false_eq_true, and_true, true_and, D.str.injEq, D.int.injEq, D.ref.injEq, D.tup.injEq, D.bl.injEq, add_ii, add_ss, add_tt, mul_ii, int_ii, abs_i, int_i, int_b, eq_ii, eq_ss, lt_ii, le_ii, gt_ii, ge_ii, ix_0, ix_1, ix_2, len_tt, tup_n]
    refine ⟨.inl ⟨rfl, _, hn5⟩, sm, zr, ?_⟩
    refine lcGo_map (T := ⟨rngI 0 many, fun _ => True⟩) (M0 := M5) (labF vals nm s) (fun _ _ => trivial) _ M5 (.refl _) (fun z hz acc3 M6 kk k7 hkk => ?_) fun M6 k7 r hr => ?_
    · obtain ⟨one, rfl, w0, w1⟩ := rng_mem hz
      refine ⟨_, rfl, ?_⟩
      simp only [Ss.wp, S.wp, E.wp, E.wpT, Es.wp, Es.wpV, Es.wpT, Oe.wpO, Oe.wpT, Wk.wp, wSeq, wRet, wRetN, wNext, wNever, wDrop, wAsg, wIfS, wFor, wPar, wPar3, wFldS, wSetI, wSetK, wDnew, wMeth, wBm, wAndV, wOrV, wNotV, wAnd, wOr, wNot, wTest, wTru, wIf, w1, w2, w3, wVar, wC, wNil, wCons, wTup, wLst, wCall, wCallK, wO0, wO1, wSl, wLc, wISeq, wIR1, wIR2, wIZip, wIStr, wIEn, wDc, DcK.emp, Wk.wp, binF, cmpF, isaD, negD, Blt.spec, Bm.spec, Bm.ty, List.getElem?_cons_zero, List.getElem?_cons_succ, Option.some.injEq, exists_eq_left', exists_eq_left, exists_and_left, List.set_cons_zero, List.set_cons_succ, asn_name, asn_tup, asns_nil, asns_name, wipeD, tru_bl, tru_int, tru_non, tru_tup, bodyEnds, List.map_cons, List.map_nil, ↓reduceIte, Bool.false_eq_true, and_true, true_and, D.str.injEq, D.int.injEq, D.ref.injEq, D.tup.injEq, D.bl.injEq, add_ii, add_ss, add_tt, mul_ii, int_ii, abs_i, int_i, int_b, eq_ii, eq_ss, lt_ii, le_ii, gt_ii, ge_ii, ix_0, ix_1, ix_2, len_tt, tup_n]
      have q := hkk M6 k7
      unfold labF at q
      refine ix_vals w0 (by omega) ?_
      simp only [Ss.wp, S.wp, E.wp, E.wpT, Es.wp, Es.wpV, Es.wpT, Oe.wpO, Oe.wpT, Wk.wp, wSeq, wRet, wRetN, wNext, wNever, wDrop, wAsg, wIfS, wFor, wPar, wPar3, wFldS, wSetI, wSetK, wDnew, wMeth, wBm, wAndV, wOrV, wNotV, wAnd, wOr, wNot, wTest, wTru, wIf, w1, w2, w3, wVar, wC, wNil, wCons, wTup, wLst, wCall, wCallK, wO0, wO1, wSl, wLc, wISeq, wIR1, wIR2, wIZip, wIStr, wIEn, wDc, DcK.emp, Wk.wp, binF, cmpF, isaD, negD, Blt.spec, Bm.spec, Bm.ty, List.getElem?_cons_zero, List.getElem?_cons_succ, Option.some.injEq, exists_eq_left', exists_eq_left, exists_and_left, List.set_cons_zero, List.set_cons_succ, asn_name, asn_tup, asns_nil, asns_name, wipeD, tru_bl, tru_int, tru_non, tru_tup, bodyEnds, List.map_cons, List.map_nil, ↓reduceIte, Bool.false_eq_true, and_true, true_and, D.str.injEq, D.int.injEq, D.ref.injEq, D.tup.injEq, D.bl.injEq, add_ii, add_ss, add_tt, mul_ii, int_ii, abs_i, int_i, int_b, eq_ii, eq_ss, lt_ii, le_ii, gt_ii, ge_ii, ix_0, ix_1, ix_2, len_tt, tup_n]
      by_cases c1 : spA vals one = s
      · simp only [c1, decide_true, if_true]
        refine ⟨by simp [sizeLine_eq], ?_⟩
        simpa [c1, tie] using q
      · simp only [c1, decide_false, Bool.false_eq_true, if_false]
        simpa [c1] using q
    · have lz : ((rngI 0 many).filterMap (labF vals nm s)).length ≤ 6 := Nat.le_trans (List.length_filterMap_le _ _) (by rw [rng_len]; omega)
      have ntr : tp ≠ r := fun z => by subst z; rw [k7 _ _ ht5] at hr; cases hr
      have nnr : np ≠ r := fun z => by subst z; rw [k7 _ _ hn5] at hr; cases hr
      refine ⟨np, r, _, _, rfl, rfl, by rw [up_ne nnr]; exact k7 _ _ hn5, up_same, by rw [sizeLine_eq]; omega, hk _ _ ⟨(k6.trans (k7.trans (.new hr))).put hnp3, ?_, ⟨_, up_same, lb.more hnm hpre, ?_⟩, _, _, rfl⟩⟩
      · rw [up_ne ntn, up_ne ntr]; exact k7 _ _ ht5
      · rw [List.length_append, List.length_append, List.length_singleton]; omega
  obtain ⟨k6, ht5, ⟨lac, hn5, lb, ll⟩, v6', v10, rfl⟩ := hJ
  rw [List.nil_append] at lb ll
  simp only [Ss.wp, S.wp, E.wp, E.wpT, Es.wp, Es.wpV, Es.wpT, Oe.wpO, Oe.wpT, Wk.wp, wSeq, wRet, wRetN, wNext, wNever, wDrop, wAsg, wIfS, wFor, wPar, wPar3, wFldS, wSetI, wSetK, wDnew, wMeth, wBm, wAndV, wOrV, wNotV, wAnd, wOr, wNot, wTest, wTru, wIf, w1, w2, w3, wVar, wC, wNil, wCons, wTup, wLst, wCall, wCallK, wO0, wO1, wSl, wLc, wISeq, wIR1, wIR2, wIZip, wIStr, wIEn, wDc, DcK.emp, Wk.wp, binF, cmpF, isaD, negD, Blt.spec, Bm.spec, Bm.ty, List.getElem?_cons_zero, List.getElem?_cons_succ, Option.some.injEq, exists_eq_left', exists_eq_left, exists_and_left, List.set_cons_zero, List.set_cons_succ, asn_name, asn_tup, asns_nil, asns_name, wipeD, tru_bl, tru_int, tru_non, tru_tup, bodyEnds, List.map_cons, List.map_nil, ↓reduceIte, Bool.false_eq_true, and_true, true_and, D.str.injEq, D.int.injEq, D.ref.injEq, D.tup.injEq, D.bl.injEq, add_ii, add_ss, add_tt, mul_ii, int_ii, abs_i, int_i, int_b, eq_ii, eq_ss, lt_ii, le_ii, gt_ii, ge_ii, ix_0, ix_1, ix_2, len_tt, tup_n]
  have za : acc.length ≤ 504 := by omega
  refine ⟨_, seqT_l ht5, by show acc.length ≤ sizeLine; rw [sizeLine_eq]; omega, ?_⟩
  refine lcGo_sub (T := ⟨acc, fun M => M tp = some (.lst acc)⟩) (M0 := M5) (fun M6 k7 => k7 _ _ ht5) acc M5 (.refl _) (fun x hx acc3 M6 kk k7 y1 y2 => ?_) fun ts M6 k7 hts r hr => ?_
  · refine ⟨_, rfl, ?_⟩
    simp only [Ss.wp, S.wp, E.wp, E.wpT, Es.wp, Es.wpV, Es.wpT, Oe.wpO, Oe.wpT, Wk.wp, wSeq, wRet, wRetN, wNext, wNever, wDrop, wAsg, wIfS, wFor, wPar, wPar3, wFldS, wSetI, wSetK, wDnew, wMeth, wBm, wAndV, wOrV, wNotV, wAnd, wOr, wNot, wTest, wTru, wIf, w1, w2, w3, wVar, wC, wNil, wCons, wTup, wLst, wCall, wCallK, wO0, wO1, wSl, wLc, wISeq, wIR1, wIR2, wIZip, wIStr, wIEn, wDc, DcK.emp, Wk.wp, binF, cmpF, isaD, negD, Blt.spec, Bm.spec, Bm.ty, List.getElem?_cons_zero, List.getElem?_cons_succ, Option.some.injEq, exists_eq_left', exists_eq_left, exists_and_left, List.set_cons_zero, List.set_cons_succ, asn_name, asn_tup, asns_nil, asns_name, wipeD, tru_bl, tru_int, tru_non, tru_tup, bodyEnds, List.map_cons, List.map_nil, ↓reduceIte, Bool.false_eq_true, and_true, true_and, D.str.injEq, D.int.injEq, D.ref.injEq, D.tup.injEq, D.bl.injEq, add_ii, add_ss, add_tt, mul_ii, int_ii, abs_i, int_i, int_b, eq_ii, eq_ss, lt_ii, le_ii, gt_ii, ge_ii, ix_0, ix_1, ix_2, len_tt, tup_n]
    refine ⟨p, 3, rfl, k7 _ _ (k6 _ _ (k3 _ _ hp)), by decide, by decide, fun r5 w0 w1 => ?_⟩
    simp only [Ss.wp, S.wp, E.wp, E.wpT, Es.wp, Es.wpV, Es.wpT, Oe.wpO, Oe.wpT, Wk.wp, wSeq, wRet, wRetN, wNext, wNever, wDrop, wAsg, wIfS, wFor, wPar, wPar3, wFldS, wSetI, wSetK, wDnew, wMeth, wBm, wAndV, wOrV, wNotV, wAnd, wOr, wNot, wTest, wTru, wIf, w1, w2, w3, wVar, wC, wNil, wCons, wTup, wLst, wCall, wCallK, wO0, wO1, wSl, wLc, wISeq, wIR1, wIR2, wIZip, wIStr, wIEn, wDc, DcK.emp, Wk.wp, binF, cmpF, isaD, negD, Blt.spec, Bm.spec, Bm.ty, List.getElem?_cons_zero, List.getElem?_cons_succ, Option.some.injEq, exists_eq_left', exists_eq_left, exists_and_left, List.set_cons_zero, List.set_cons_succ, asn_name, asn_tup, asns_nil, asns_name, wipeD, tru_bl, tru_int, tru_non, tru_tup, bodyEnds, List.map_cons, List.map_nil, ↓reduceIte, Bool.false_eq_true, and_true, true_and, D.str.injEq, D.int.injEq, D.ref.injEq, D.tup.injEq, D.bl.injEq, add_ii, add_ss, add_tt, mul_ii, int_ii, abs_i, int_i, int_b, eq_ii, eq_ss, lt_ii, le_ii, gt_ii, ge_ii, ix_0, ix_1, ix_2, len_tt, tup_n]
    by_cases h5 : 0 < r5
    · simp only [h5, decide_true, if_true]
      exact y1 M6 k7
    · simp only [h5, decide_false, Bool.false_eq_true, if_false]
      exact y2 M6 k7
  · have tT : ∀ x ∈ ts, ∃ nm is, x = tie nm is := fun x hx => by
      obtain ⟨nm, i, j, e, _⟩ := dr.each x (hts.subset hx)
      exact ⟨nm, _, e⟩
    have tL : ∀ x ∈ lac, ∃ nm is, x = tie nm is := fun x hx => by
      obtain ⟨nm, i, e, _⟩ := lb.each x hx
      exact ⟨nm, _, e⟩
    have zt : ts.length ≤ 504 := Nat.le_trans hts.length_le za
    have k8 : Keep M5 (up M6 r (.lst ts)) := k7.trans (.new hr)
    refine sort_ties tT up_same fun s1 hs1 => ?_
    simp only [Ss.wp, S.wp, E.wp, E.wpT, Es.wp, Es.wpV, Es.wpT, Oe.wpO, Oe.wpT, Wk.wp, wSeq, wRet, wRetN, wNext, wNever, wDrop, wAsg, wIfS, wFor, wPar, wPar3, wFldS, wSetI, wSetK, wDnew, wMeth, wBm, wAndV, wOrV, wNotV, wAnd, wOr, wNot, wTest, wTru, wIf, w1, w2, w3, wVar, wC, wNil, wCons, wTup, wLst, wCall, wCallK, wO0, wO1, wSl, wLc, wISeq, wIR1, wIR2, wIZip, wIStr, wIEn, wDc, DcK.emp, Wk.wp, binF, cmpF, isaD, negD, Blt.spec, Bm.spec, Bm.ty, List.getElem?_cons_zero, List.getElem?_cons_succ, Option.some.injEq, exists_eq_left', exists_eq_left, exists_and_left, List.set_cons_zero, List.set_cons_succ, asn_name, asn_tup, asns_nil, asns_name, wipeD, tru_bl, tru_int, tru_non, tru_tup, bodyEnds, List.map_cons, List.map_nil, ↓reduceIte, Bool.false_eq_true, and_true, true_and, D.str.injEq, D.int.injEq, D.ref.injEq, D.tup.injEq, D.bl.injEq, add_ii, add_ss, add_tt, mul_ii, int_ii, abs_i, int_i, int_b, eq_ii, eq_ss, lt_ii, le_ii, gt_ii, ge_ii, ix_0, ix_1, ix_2, len_tt, tup_n]
    refine sort_ties tL (Keep.new hs1 _ _ (k8 _ _ hn5)) fun s2 hs2 => ?_
    simp only [Ss.wp, S.wp, E.wp, E.wpT, Es.wp, Es.wpV, Es.wpT, Oe.wpO, Oe.wpT, Wk.wp, wSeq, wRet, wRetN, wNext, wNever, wDrop, wAsg, wIfS, wFor, wPar, wPar3, wFldS, wSetI, wSetK, wDnew, wMeth, wBm, wAndV, wOrV, wNotV, wAnd, wOr, wNot, wTest, wTru, wIf, w1, w2, w3, wVar, wC, wNil, wCons, wTup, wLst, wCall, wCallK, wO0, wO1, wSl, wLc, wISeq, wIR1, wIR2, wIZip, wIStr, wIEn, wDc, DcK.emp, Wk.wp, binF, cmpF, isaD, negD, Blt.spec, Bm.spec, Bm.ty, List.getElem?_cons_zero, List.getElem?_cons_succ, Option.some.injEq, exists_eq_left', exists_eq_left, exists_and_left, List.set_cons_zero, List.set_cons_succ, asn_name, asn_tup, asns_nil, asns_name, wipeD, tru_bl, tru_int, tru_non, tru_tup, bodyEnds, List.map_cons, List.map_nil, ↓reduceIte, Bool.false_eq_true, and_true, true_and, D.str.injEq, D.int.injEq, D.ref.injEq, D.tup.injEq, D.bl.injEq, add_ii, add_ss, add_tt, mul_ii, int_ii, abs_i, int_i, int_b, eq_ii, eq_ss, lt_ii, le_ii, gt_ii, ge_ii, ix_0, ix_1, ix_2, len_tt, tup_n]
    refine ⟨by simp [sizeLine_eq], by simp [sizeLine_eq], h _ _ _ vals (k3.trans (k6.trans (k8.trans ((Keep.new hs1).trans (.new hs2))))) ⟨m0, by omega, by rw [len_sort]; omega, by rw [len_sort]; omega, ⟨fun x hx => ?_, sort_rise (inj_ties tT) (dr.nd.sublist hts)⟩, ⟨fun x hx => ?_, sort_rise (inj_ties tL) lb.nd⟩⟩ hl' hv⟩
    · obtain ⟨nm, i, j, e, hnm, i0, i1, j0, j1, _⟩ := dr.each x (hts.subset (mem_sort.mp hx))
      refine ⟨nm, _, e, rfl, hnm, fun z hz => ?_⟩
      simp only [List.mem_cons, List.not_mem_nil, or_false] at hz
      rcases hz with rfl | rfl <;> omega
    · obtain ⟨nm, i, e, hnm, i0, i1, _⟩ := lb.each x (mem_sort.mp hx)
      refine ⟨nm, _, e, rfl, hnm, fun z hz => ?_⟩
      rw [List.mem_singleton.mp hz]
      omega
theorem repr_ints {is : List Int} {M : Mp} {Q : DQ} (hz : is.length ≤ 100) (hi : ∀ i ∈ is, i.natAbs < 100) (q : Q (.str (py (.tup (is.map D.int))).shown) M) : reprS [.tup (is.map D.int)] M Q := by
  refine .inl ⟨_, rfl, plains_ints is, showable_tup fun d hd => ?_, ?_, ?_, q⟩
  · obtain ⟨i, h, rfl⟩ := List.mem_map.mp hd
    exact showable_int (Nat.lt_trans (hi i h) (by decide))
  · have := depth_ints is
    simp [py, PyData.depth]
    omega
  · refine Nat.le_trans (shown_tup (n := 3) fun d hd => ?_) ?_
    · obtain ⟨i, h, rfl⟩ := List.mem_map.mp hd
      exact shown_int (k := 2) (by decide) (hi i h)
    · rw [List.length_map, sizeLine_eq]; omega
theorem led_ints {vals mv : List Int} (h : ∀ i ∈ vals, 0 ≤ i ∧ i < mv.length) : ledL (vals.map D.int) (mv.map D.int) = (vals.map (spA mv)).map D.int := by
  unfold ledL
  rw [List.map_map, List.map_map]
  apply List.map_congr_left
  intro i hi
  obtain ⟨i0, i1⟩ := h i hi
  show atN (mv.map D.int) i = .int (spA mv i)
  obtain ⟨k, rfl⟩ := Int.eq_ofNat_of_zero_le i0
  have hk : k < mv.length := by omega
  unfold atN spA
  rw [Int.toNat_natCast, List.getD_eq_getElem?_getD, List.getD_eq_getElem?_getD, List.getElem?_map, List.getElem?_eq_getElem hk]
  rfl
theorem spA_mem {mv : List Int} {i : Int} (i0 : 0 ≤ i) (i1 : i < mv.length) : spA mv i ∈ mv := by
  obtain ⟨k, rfl⟩ := Int.eq_ofNat_of_zero_le i0
  have hk : k < mv.length := by omega
  unfold spA
  rw [Int.toNat_natCast, List.getD_eq_getElem?_getD, List.getElem?_eq_getElem hk]
  exact List.getElem_mem hk
/-! ### the law -/
def S_is_leading_K0_thing_other_net (c : Cs) : Spec := permS [2, 1, 0] (S_is_leading c)
def S_law (_ : Cs) : Spec := fun ds M Q => ∃ a ns, ds = [.ref a] ∧ M a = some (.scr ns) ∧ ns.length ≤ 100 ∧ ∀ M', Keep M M' → Q (.bl true) M'
abbrev N_law : List Str := ["_law_script", "_law_k", "_law_pot_here", "_law_turn", "_law_home_here", "_law_mesh_here", "_law_far_one", "_law_one", "_law_marks", "_law_due_here", "_law_small", "_law_spots", "_law_item", "_law_spot", "_law_at"]
def ir_law (c : Cs) : Ss := (.cons (.for_ (.name 1) (.r1 (.bcall .max (.cons (.int 1) (.cons (.bcall .min (.cons (.int 2) (.cons (.bcall .len (.cons (.var 0) .nil)) .nil))) .nil)))) (.cons (.asg (.name 2) (.call "_law_pot" (S_l_pot c) (.cons (.var 0) (.cons (.var 1) .nil)))) (.cons (.for_ (.name 3) (.r1 (.int 4)) (.cons (.asg (.name 4) (.call "_law_home" (S_l_home c) (.cons (.var 2) (.cons (.int 3) .nil)))) (.cons (.asg (.name 5) (.call "_law_mesh" (S_l_mesh c) (.cons (.var 2) (.cons (.var 4) (.cons (.int 8) (.cons (.int 14) .nil)))))) (.cons (.asg (.tup (.cons (.name 10) (.cons (.name 11) .nil))) (.call "_law_drawn_back" (S_l_drawn_back c) (.cons (.var 2) (.cons (.var 5) (.cons (.bin .Mult (.call "_law_take" (S_l_take c) (.cons (.var 2) (.cons (.int 7) .nil))) (.bcall .int (.cons (.cmp .Gt (.idx (.var 5) (.int 0)) (.int 0)) .nil))) .nil))))) (.cons (.asg (.name 6) (.call "_law_mesh" (S_l_mesh c) (.cons (.var 2) (.cons (.var 4) (.cons (.idx (.var 10) (.int 0)) (.cons (.int 2) .nil)))))) (.cons (.for_ (.name 7) (.seq (.tup (.cons (.var 10) (.cons (.var 6) .nil)))) (.cons (.for_ (.name 12) (.seq (.call "_law_bent" (S_l_bent c) (.cons (.var 2) (.cons (.var 5) (.cons (.var 11) .nil))))) (.cons (.asg (.name 9) (.bcall .repr (.cons (.call "_law_due" (S_l_due c) (.cons (.var 7) (.cons (.var 5) (.cons (.var 12) .nil)))) .nil))) (.cons (.ife (.cmp .NotEq (.bcall .repr (.cons (.call "is_leading" (S_is_leading c) (.cons (.call "_law_net" (S_l_net c) (.cons (.var 7) .nil)) (.cons (.call "_law_net" (S_l_net c) (.cons (.var 5) .nil)) (.cons (.var 12) .nil)))) .nil)) (.var 9)) (.cons (.ret (.bl false)) .nil) .nil) (.cons (.ife (.cmp .NotEq (.bcall .repr (.cons (.callK "is_leading" (S_is_leading_K0_thing_other_net c) .nil ["thing", "other", "net"] (.cons (.var 12) (.cons (.call "_law_net" (S_l_net c) (.cons (.var 5) .nil)) (.cons (.call "_law_net" (S_l_net c) (.cons (.var 7) .nil)) .nil)))) .nil)) (.var 9)) (.cons (.ret (.bl false)) .nil) .nil) .nil)))) .nil)) (.cons (.asg (.name 8) (.bcall .tuple (.cons (.lc [("_law_spot", 13)] (.name 13) (.r1 (.idx (.var 5) (.int 0))) .none (.call "_law_take" (S_l_take c) (.cons (.var 2) (.cons (.int 4) .nil)))) .nil))) (.cons (.asg (.name 9) (.bcall .repr (.cons (.bcall .tuple (.cons (.lc [("_law_at", 14)] (.name 14) (.seq (.var 11)) .none (.idx (.var 8) (.var 14))) .nil)) .nil))) (.cons (.ife (.cmp .NotEq (.bcall .repr (.cons (.call "led_back" (S_led_back c) (.cons (.var 11) (.cons (.var 8) .nil))) .nil)) (.var 9)) (.cons (.ret (.bl false)) .nil) .nil) .nil))))))))) .nil))) (.cons (.ret (.bl true)) .nil))
theorem wp_law (c : Cs) {a : Addr} {ns : List Int} {M : Mp} {Q : DQ} (ha : M a = some (.scr ns)) (hz : ns.length ≤ 100) (h : ∀ M', Keep M M' → Q (.bl true) M') : (ir_law c).wp (bodyEnds Q) [some (.ref a), none, none, none, none, none, none, none, none, none, none, none, none, none, none] M := by
  simp only [ir_law, Ss.wp, S.wp, E.wp, E.wpT, Es.wp, Es.wpV, Es.wpT, Oe.wpO, Oe.wpT, Wk.wp, wSeq, wRet, wRetN, wNext, wNever, wDrop, wAsg, wIfS, wFor, wPar, wPar3, wFldS, wSetI, wSetK, wDnew, wMeth, wBm, wAndV, wOrV, wNotV, wAnd, wOr, wNot, wTest, wTru, wIf, w1, w2, w3, wVar, wC, wNil, wCons, wTup, wLst, wCall, wCallK, wO0, wO1, wSl, wLc, wISeq, wIR1, wIR2, wIZip, wIStr, wIEn, wDc, DcK.emp, Wk.wp, binF, cmpF, isaD, negD, Blt.spec, Bm.spec, Bm.ty, List.getElem?_cons_zero, List.getElem?_cons_succ, Option.some.injEq, exists_eq_left', exists_eq_left, exists_and_left, List.set_cons_zero, List.set_cons_succ, asn_name, asn_tup, asns_nil, asns_name, wipeD, tru_bl, tru_int, tru_non, tru_tup, bodyEnds, List.map_cons, List.map_nil, ↓reduceIte, Bool.false_eq_true, and_true, true_and, D.str.injEq, D.int.injEq, D.ref.injEq, D.tup.injEq, D.bl.injEq, add_ii, add_ss, add_tt, mul_ii, int_ii, abs_i, int_i, int_b, eq_ii, eq_ss, lt_ii, le_ii, gt_ii, ge_ii, ix_0, ix_1, ix_2, len_tt, tup_n]
  refine ⟨_, ns.length, rfl, .inr ⟨ns, ha, rfl⟩, ⟨2, _, rfl, ⟨1, _, rfl, ?_⟩⟩⟩
  generalize hn : (if (if (ns.length : Int) < 2 then (ns.length : Int) else 2) > 1 then (if (ns.length : Int) < 2 then (ns.length : Int) else 2) else 1) = n
  have n2 : n ≤ 2 := by rw [← hn]; split <;> (try split) <;> omega
  have n1 : 1 ≤ n := by rw [← hn]; split <;> (try split) <;> omega
  refine ⟨n, rfl, by unfold small62; omega, ?_⟩
  refine forGo_inv (T := ⟨rngI 0 n, fun _ => True⟩) (fun done ρ M2 => Keep M M2 ∧ ∃ v1 v2 v3 v4 v5 v6 v7 v8 v9 v10 v11 v12, ρ = [some (.ref a), v1, v2, v3, v4, v5, v6, v7, v8, v9, v10, v11, v12, none, none]) (fun _ _ _ _ => trivial) (rngI 0 n) [] _ M ⟨.refl _, _, _, _, _, _, _, _, _, _, _, _, _, rfl⟩ (fun x hx done ρ M2 k hJ hk => ?_) fun ρ M2 hJ => ?_
  · obtain ⟨k2, v1, v2, v3, v4, v5, v6, v7, v8, v9, v10, v11, v12, rfl⟩ := hJ
    obtain ⟨i, rfl, i0, i1⟩ := rng_mem hx
    refine ⟨_, rfl, ?_⟩
    simp only [Ss.wp, S.wp, E.wp, E.wpT, Es.wp, Es.wpV, Es.wpT, Oe.wpO, Oe.wpT, Wk.wp, wSeq, wRet, wRetN, wNext, wNever, wDrop, wAsg, wIfS, wFor, wPar, wPar3, wFldS, wSetI, wSetK, wDnew, wMeth, wBm, wAndV, wOrV, wNotV, wAnd, wOr, wNot, wTest, wTru, wIf, w1, w2, w3, wVar, wC, wNil, wCons, wTup, wLst, wCall, wCallK, wO0, wO1, wSl, wLc, wISeq, wIR1, wIR2, wIZip, wIStr, wIEn, wDc, DcK.emp, Wk.wp, binF, cmpF, isaD, negD, Blt.spec, Bm.spec, Bm.ty, List.getElem?_cons_zero, List.getElem?_cons_succ, Option.some.injEq, exists_eq_left', exists_eq_left, exists_and_left, List.set_cons_zero, List.set_cons_succ, asn_name, asn_tup, asns_nil, asns_name, wipeD, tru_bl, tru_int, tru_non, tru_tup, bodyEnds, List.map_cons, List.map_nil, ↓reduceIte, Bool.false_eq_true, and_true, true_and, D.str.injEq, D.int.injEq, D.ref.injEq, D.tup.injEq, D.bl.injEq, add_ii, add_ss, add_tt, mul_ii, int_ii, abs_i, int_i, int_b, eq_ii, eq_ss, lt_ii, le_ii, gt_ii, ge_ii, ix_0, ix_1, ix_2, len_tt, tup_n]
    refine ⟨a, ns, i, rfl, k2 _ _ ha, hz, i0, by omega, fun M3 p k3 hp2 hp3 => ?_⟩
    simp only [Ss.wp, S.wp, E.wp, E.wpT, Es.wp, Es.wpV, Es.wpT, Oe.wpO, Oe.wpT, Wk.wp, wSeq, wRet, wRetN, wNext, wNever, wDrop, wAsg, wIfS, wFor, wPar, wPar3, wFldS, wSetI, wSetK, wDnew, wMeth, wBm, wAndV, wOrV, wNotV, wAnd, wOr, wNot, wTest, wTru, wIf, w1, w2, w3, wVar, wC, wNil, wCons, wTup, wLst, wCall, wCallK, wO0, wO1, wSl, wLc, wISeq, wIR1, wIR2, wIZip, wIStr, wIEn, wDc, DcK.emp, Wk.wp, binF, cmpF, isaD, negD, Blt.spec, Bm.spec, Bm.ty, List.getElem?_cons_zero, List.getElem?_cons_succ, Option.some.injEq, exists_eq_left', exists_eq_left, exists_and_left, List.set_cons_zero, List.set_cons_succ, asn_name, asn_tup, asns_nil, asns_name, wipeD, tru_bl, tru_int, tru_non, tru_tup, bodyEnds, List.map_cons, List.map_nil, ↓reduceIte, Bool.false_eq_true, and_true, true_and, D.str.injEq, D.int.injEq, D.ref.injEq, D.tup.injEq, D.bl.injEq, add_ii, add_ss, add_tt, mul_ii, int_ii, abs_i, int_i, int_b, eq_ii, eq_ss, lt_ii, le_ii, gt_ii, ge_ii, ix_0, ix_1, ix_2, len_tt, tup_n]
    refine ⟨by unfold small62; omega, ?_⟩
    refine forGo_inv (T := ⟨rngI 0 4, fun _ => True⟩) (fun done ρ M4 => Keep M3 M4 ∧ ∃ v3 v4 v5 v6 v7 v8 v9 v10 v11 v12, ρ = [some (.ref a), some (.int i), some (.ref p), v3, v4, v5, v6, v7, v8, v9, v10, v11, v12, none, none]) (fun _ _ _ _ => trivial) (rngI 0 4) [] _ M3 ⟨.refl _, _, _, _, _, _, _, _, _, _, _, rfl⟩ (fun y hy done2 ρ M4 k' hJ hk' => ?_) fun ρ M4 hJ => ?_
    · obtain ⟨k4, v3, v4, v5, v6, v7, v8, v9, v10, v11, v12, rfl⟩ := hJ
      refine ⟨_, rfl, ?_⟩
      simp only [Ss.wp, S.wp, E.wp, E.wpT, Es.wp, Es.wpV, Es.wpT, Oe.wpO, Oe.wpT, Wk.wp, wSeq, wRet, wRetN, wNext, wNever, wDrop, wAsg, wIfS, wFor, wPar, wPar3, wFldS, wSetI, wSetK, wDnew, wMeth, wBm, wAndV, wOrV, wNotV, wAnd, wOr, wNot, wTest, wTru, wIf, w1, w2, w3, wVar, wC, wNil, wCons, wTup, wLst, wCall, wCallK, wO0, wO1, wSl, wLc, wISeq, wIR1, wIR2, wIZip, wIStr, wIEn, wDc, DcK.emp, Wk.wp, binF, cmpF, isaD, negD, Blt.spec, Bm.spec, Bm.ty, List.getElem?_cons_zero, List.getElem?_cons_succ, Option.some.injEq, exists_eq_left', exists_eq_left, exists_and_left, List.set_cons_zero, List.set_cons_succ, asn_name, asn_tup, asns_nil, asns_name, wipeD, tru_bl, tru_int, tru_non, tru_tup, bodyEnds, List.map_cons, List.map_nil, ↓reduceIte, Bool.false_eq_true, and_true, true_and, D.str.injEq, D.int.injEq, D.ref.injEq, D.tup.injEq, D.bl.injEq, add_ii, add_ss, add_tt, mul_ii, int_ii, abs_i, int_i, int_b, eq_ii, eq_ss, lt_ii, le_ii, gt_ii, ge_ii, ix_0, ix_1, ix_2, len_tt, tup_n]
      have hp4 := k4 _ _ hp3
      refine ⟨p, 3, rfl, hp4, by decide, by decide, fun M5 s rs ls k5 s1 s4 okr okl lr ll => ?_⟩
      refine ⟨p, s, rs, ls, 8, 14, rfl, k5 _ _ hp4, okr, okl, lr, by decide, by decide, by decide, by decide, fun M6 n6 ks6 bs6 k6 a6 b6 ok6 z6 y6 => ?_⟩
      simp only [meshT, Ss.wp, S.wp, E.wp, E.wpT, Es.wp, Es.wpV, Es.wpT, Oe.wpO, Oe.wpT, Wk.wp, wSeq, wRet, wRetN, wNext, wNever, wDrop, wAsg, wIfS, wFor, wPar, wPar3, wFldS, wSetI, wSetK, wDnew, wMeth, wBm, wAndV, wOrV, wNotV, wAnd, wOr, wNot, wTest, wTru, wIf, w1, w2, w3, wVar, wC, wNil, wCons, wTup, wLst, wCall, wCallK, wO0, wO1, wSl, wLc, wISeq, wIR1, wIR2, wIZip, wIStr, wIEn, wDc, DcK.emp, Wk.wp, binF, cmpF, isaD, negD, Blt.spec, Bm.spec, Bm.ty, List.getElem?_cons_zero, List.getElem?_cons_succ, Option.some.injEq, exists_eq_left', exists_eq_left, exists_and_left, List.set_cons_zero, List.set_cons_succ, asn_name, asn_tup, asns_nil, asns_name, wipeD, tru_bl, tru_int, tru_non, tru_tup, bodyEnds, List.map_cons, List.map_nil, ↓reduceIte, Bool.false_eq_true, and_true, true_and, D.str.injEq, D.int.injEq, D.ref.injEq, D.tup.injEq, D.bl.injEq, add_ii, add_ss, add_tt, mul_ii, int_ii, abs_i, int_i, int_b, eq_ii, eq_ss, lt_ii, le_ii, gt_ii, ge_ii, ix_0, ix_1, ix_2, len_tt, tup_n]
      have hp6 := k6 _ _ (k5 _ _ hp4)
      refine ⟨p, 7, rfl, hp6, by decide, by decide, fun r7 r70 r71 => ?_⟩
      simp only [Ss.wp, S.wp, E.wp, E.wpT, Es.wp, Es.wpV, Es.wpT, Oe.wpO, Oe.wpT, Wk.wp, wSeq, wRet, wRetN, wNext, wNever, wDrop, wAsg, wIfS, wFor, wPar, wPar3, wFldS, wSetI, wSetK, wDnew, wMeth, wBm, wAndV, wOrV, wNotV, wAnd, wOr, wNot, wTest, wTru, wIf, w1, w2, w3, wVar, wC, wNil, wCons, wTup, wLst, wCall, wCallK, wO0, wO1, wSl, wLc, wISeq, wIR1, wIR2, wIZip, wIStr, wIEn, wDc, DcK.emp, Wk.wp, binF, cmpF, isaD, negD, Blt.spec, Bm.spec, Bm.ty, List.getElem?_cons_zero, List.getElem?_cons_succ, Option.some.injEq, exists_eq_left', exists_eq_left, exists_and_left, List.set_cons_zero, List.set_cons_succ, asn_name, asn_tup, asns_nil, asns_name, wipeD, tru_bl, tru_int, tru_non, tru_tup, bodyEnds, List.map_cons, List.map_nil, ↓reduceIte, Bool.false_eq_true, and_true, true_and, D.str.injEq, D.int.injEq, D.ref.injEq, D.tup.injEq, D.bl.injEq, add_ii, add_ss, add_tt, mul_ii, int_ii, abs_i, int_i, int_b, eq_ii, eq_ss, lt_ii, le_ii, gt_ii, ge_ii, ix_0, ix_1, ix_2, len_tt, tup_n]
      generalize hm7 : (r7 * if decide (0 < n6) = true then (1 : Int) else 0) = m7
      have m70 : 0 ≤ m7 := by rw [← hm7]; split <;> omega
      have m76 : m7 ≤ 6 := by rw [← hm7]; split <;> omega
      have m7n : 0 < m7 → 0 < n6 := fun z => by
        rcases Int.lt_or_le 0 n6 with q | q
        · exact q
        · have e0 : decide (0 < n6) = false := decide_eq_false (by omega)
          rw [e0] at hm7
          simp at hm7
          omega
      refine ⟨.inr (by split <;> exact ⟨by decide, by decide⟩), p, n6, ks6, bs6, m7, rfl, hp6, ok6.net, z6, y6, m70, m76, m7n, fun M7 ks7 bs7 vals k7 ok7 lv hv => ?_⟩
      simp only [meshT, Ss.wp, S.wp, E.wp, E.wpT, Es.wp, Es.wpV, Es.wpT, Oe.wpO, Oe.wpT, Wk.wp, wSeq, wRet, wRetN, wNext, wNever, wDrop, wAsg, wIfS, wFor, wPar, wPar3, wFldS, wSetI, wSetK, wDnew, wMeth, wBm, wAndV, wOrV, wNotV, wAnd, wOr, wNot, wTest, wTru, wIf, w1, w2, w3, wVar, wC, wNil, wCons, wTup, wLst, wCall, wCallK, wO0, wO1, wSl, wLc, wISeq, wIR1, wIR2, wIZip, wIStr, wIEn, wDc, DcK.emp, Wk.wp, binF, cmpF, isaD, negD, Blt.spec, Bm.spec, Bm.ty, List.getElem?_cons_zero, List.getElem?_cons_succ, Option.some.injEq, exists_eq_left', exists_eq_left, exists_and_left, List.set_cons_zero, List.set_cons_succ, asn_name, asn_tup, asns_nil, asns_name, wipeD, tru_bl, tru_int, tru_non, tru_tup, bodyEnds, List.map_cons, List.map_nil, ↓reduceIte, Bool.false_eq_true, and_true, true_and, D.str.injEq, D.int.injEq, D.ref.injEq, D.tup.injEq, D.bl.injEq, add_ii, add_ss, add_tt, mul_ii, int_ii, abs_i, int_i, int_b, eq_ii, eq_ss, lt_ii, le_ii, gt_ii, ge_ii, ix_0, ix_1, ix_2, len_tt, tup_n]
      have hp7 := k7 _ _ hp6
      refine ⟨p, s, rs, ls, m7, 2, rfl, hp7, okr, okl, lr, m70, by omega, by decide, by decide, fun M8 n8 ks8 bs8 k8 a8 b8 ok8 z8 y8 => ?_⟩
      simp only [meshT, Ss.wp, S.wp, E.wp, E.wpT, Es.wp, Es.wpV, Es.wpT, Oe.wpO, Oe.wpT, Wk.wp, wSeq, wRet, wRetN, wNext, wNever, wDrop, wAsg, wIfS, wFor, wPar, wPar3, wFldS, wSetI, wSetK, wDnew, wMeth, wBm, wAndV, wOrV, wNotV, wAnd, wOr, wNot, wTest, wTru, wIf, w1, w2, w3, wVar, wC, wNil, wCons, wTup, wLst, wCall, wCallK, wO0, wO1, wSl, wLc, wISeq, wIR1, wIR2, wIZip, wIStr, wIEn, wDc, DcK.emp, Wk.wp, binF, cmpF, isaD, negD, Blt.spec, Bm.spec, Bm.ty, List.getElem?_cons_zero, List.getElem?_cons_succ, Option.some.injEq, exists_eq_left', exists_eq_left, exists_and_left, List.set_cons_zero, List.set_cons_succ, asn_name, asn_tup, asns_nil, asns_name, wipeD, tru_bl, tru_int, tru_non, tru_tup, bodyEnds, List.map_cons, List.map_nil, ↓reduceIte, Bool.false_eq_true, and_true, true_and, D.str.injEq, D.int.injEq, D.ref.injEq, D.tup.injEq, D.bl.injEq, add_ii, add_ss, add_tt, mul_ii, int_ii, abs_i, int_i, int_b, eq_ii, eq_ss, lt_ii, le_ii, gt_ii, ge_ii, ix_0, ix_1, ix_2, len_tt, tup_n]
      have hp8 := k8 _ _ hp7
      refine ⟨by simp [sizeLine_eq], _, seqT_t, ?_⟩
      have ex : ∀ x ∈ [D.tup [D.int m7, D.tup ks7, D.tup bs7], D.tup [D.int n8, D.tup ks8, D.tup bs8]], ∃ nx kx bx, x = meshT nx kx bx ∧ NetOk nx kx bx := fun x hx => by
        simp only [List.mem_cons, List.not_mem_nil, or_false] at hx
        rcases hx with rfl | rfl
        · exact ⟨_, _, _, rfl, ok7⟩
        · exact ⟨_, _, _, rfl, ok8.net⟩
      generalize [D.tup [D.int m7, D.tup ks7, D.tup bs7], D.tup [D.int n8, D.tup ks8, D.tup bs8]] = two at ex ⊢
      refine forGo_inv (T := ⟨two, fun _ => True⟩) (fun done ρ M9 => Keep M8 M9 ∧ ∃ v7 v9 v12, ρ = [some (.ref a), some (.int i), some (.ref p), some y, some (.tup [.int s, .tup rs, .tup ls]), some (.tup [.int n6, .tup ks6, .tup bs6]), some (.tup [.int n8, .tup ks8, .tup bs8]), v7, v8, v9, some (.tup [.int m7, .tup ks7, .tup bs7]), some (.tup (vals.map D.int)), v12, none, none]) (fun _ _ _ _ => trivial) two [] _ M8 ⟨.refl _, _, _, _, rfl⟩ (fun x hx done3 ρ M9 k9 hJ hk9 => ?_) fun ρ M9 hJ => ?_
      · obtain ⟨q9, v7', v9', v12', rfl⟩ := hJ
        obtain ⟨nx, kx, bx, rfl, okx⟩ := ex x hx
        refine ⟨_, rfl, ?_⟩
        simp only [meshT, Ss.wp, S.wp, E.wp, E.wpT, Es.wp, Es.wpV, Es.wpT, Oe.wpO, Oe.wpT, Wk.wp, wSeq, wRet, wRetN, wNext, wNever, wDrop, wAsg, wIfS, wFor, wPar, wPar3, wFldS, wSetI, wSetK, wDnew, wMeth, wBm, wAndV, wOrV, wNotV, wAnd, wOr, wNot, wTest, wTru, wIf, w1, w2, w3, wVar, wC, wNil, wCons, wTup, wLst, wCall, wCallK, wO0, wO1, wSl, wLc, wISeq, wIR1, wIR2, wIZip, wIStr, wIEn, wDc, DcK.emp, Wk.wp, binF, cmpF, isaD, negD, Blt.spec, Bm.spec, Bm.ty, List.getElem?_cons_zero, List.getElem?_cons_succ, Option.some.injEq, exists_eq_left', exists_eq_left, exists_and_left, List.set_cons_zero, List.set_cons_succ, asn_name, asn_tup, asns_nil, asns_name, wipeD, tru_bl, tru_int, tru_non, tru_tup, bodyEnds, List.map_cons, List.map_nil, ↓reduceIte, Bool.false_eq_true, and_true, true_and, D.str.injEq, D.int.injEq, D.ref.injEq, D.tup.injEq, D.bl.injEq, add_ii, add_ss, add_tt, mul_ii, int_ii, abs_i, int_i, int_b, eq_ii, eq_ss, lt_ii, le_ii, gt_ii, ge_ii, ix_0, ix_1, ix_2, len_tt, tup_n]
        have hp9 := q9 _ _ hp8
        refine ⟨p, n6, ks6, bs6, _, rfl, hp9, ok6.net.k0, ok6.net.k1, fun x hx => ?_, ?_, fun M10 q items k10 hq9 hq10 hk10 z10 => ?_⟩
        · obtain ⟨i, _, rfl⟩ := List.mem_map.mp hx; exact ⟨i, rfl⟩
        · rw [List.length_map]; omega
        refine ⟨_, seqT_l hq10, ?_⟩
        refine forGo_inv (T := ⟨items, fun M => M q = some (.lst items)⟩) (fun done ρ M11 => Keep M10 M11 ∧ ∃ v9 v12, ρ = [some (.ref a), some (.int i), some (.ref p), some y, some (.tup [.int s, .tup rs, .tup ls]), some (.tup [.int n6, .tup ks6, .tup bs6]), some (.tup [.int n8, .tup ks8, .tup bs8]), some (.tup [.int nx, .tup kx, .tup bx]), v8, v9, some (.tup [.int m7, .tup ks7, .tup bs7]), some (.tup (vals.map D.int)), v12, none, none]) (fun _ _ _ hJ => hJ.1 _ _ hq10) items [] _ M10 ⟨.refl _, _, _, rfl⟩ (fun it hit done4 ρ M11 k11 hJ hk11 => ?_) fun ρ M11 hJ => ?_
        · obtain ⟨q11, v9', v12', rfl⟩ := hJ
          refine ⟨_, rfl, ?_⟩
          simp only [Ss.wp, S.wp, E.wp, E.wpT, Es.wp, Es.wpV, Es.wpT, Oe.wpO, Oe.wpT, Wk.wp, wSeq, wRet, wRetN, wNext, wNever, wDrop, wAsg, wIfS, wFor, wPar, wPar3, wFldS, wSetI, wSetK, wDnew, wMeth, wBm, wAndV, wOrV, wNotV, wAnd, wOr, wNot, wTest, wTru, wIf, w1, w2, w3, wVar, wC, wNil, wCons, wTup, wLst, wCall, wCallK, wO0, wO1, wSl, wLc, wISeq, wIR1, wIR2, wIZip, wIStr, wIEn, wDc, DcK.emp, Wk.wp, binF, cmpF, isaD, negD, Blt.spec, Bm.spec, Bm.ty, List.getElem?_cons_zero, List.getElem?_cons_succ, Option.some.injEq, exists_eq_left', exists_eq_left, exists_and_left, List.set_cons_zero, List.set_cons_succ, asn_name, asn_tup, asns_nil, asns_name, wipeD, tru_bl, tru_int, tru_non, tru_tup, bodyEnds, List.map_cons, List.map_nil, ↓reduceIte, Bool.false_eq_true, and_true, true_and, D.str.injEq, D.int.injEq, D.ref.injEq, D.tup.injEq, D.bl.injEq, add_ii, add_ss, add_tt, mul_ii, int_ii, abs_i, int_i, int_b, eq_ii, eq_ss, lt_ii, le_ii, gt_ii, ge_ii, ix_0, ix_1, ix_2, len_tt, tup_n]
          have ki := (hk10 it hit).keep q11
          refine ⟨nx, kx, bx, n6, ks6, bs6, it, rfl, okx, ok6.net, ki, fun M12 q12 => .inr (.inl ⟨_, rfl, ?_⟩)⟩
          simp only [Ss.wp, S.wp, E.wp, E.wpT, Es.wp, Es.wpV, Es.wpT, Oe.wpO, Oe.wpT, Wk.wp, wSeq, wRet, wRetN, wNext, wNever, wDrop, wAsg, wIfS, wFor, wPar, wPar3, wFldS, wSetI, wSetK, wDnew, wMeth, wBm, wAndV, wOrV, wNotV, wAnd, wOr, wNot, wTest, wTru, wIf, w1, w2, w3, wVar, wC, wNil, wCons, wTup, wLst, wCall, wCallK, wO0, wO1, wSl, wLc, wISeq, wIR1, wIR2, wIZip, wIStr, wIEn, wDc, DcK.emp, Wk.wp, binF, cmpF, isaD, negD, Blt.spec, Bm.spec, Bm.ty, List.getElem?_cons_zero, List.getElem?_cons_succ, Option.some.injEq, exists_eq_left', exists_eq_left, exists_and_left, List.set_cons_zero, List.set_cons_succ, asn_name, asn_tup, asns_nil, asns_name, wipeD, tru_bl, tru_int, tru_non, tru_tup, bodyEnds, List.map_cons, List.map_nil, ↓reduceIte, Bool.false_eq_true, and_true, true_and, D.str.injEq, D.int.injEq, D.ref.injEq, D.tup.injEq, D.bl.injEq, add_ii, add_ss, add_tt, mul_ii, int_ii, abs_i, int_i, int_b, eq_ii, eq_ss, lt_ii, le_ii, gt_ii, ge_ii, ix_0, ix_1, ix_2, len_tt, tup_n]
          refine ⟨nx, kx, bx, rfl, okx, fun M13 t1 q13 ht1 et1 => ?_⟩
          refine ⟨n6, ks6, bs6, rfl, ok6.net, fun M14 t2 q14 ht2 et2 => ?_⟩
          have k14 := q12.trans (q13.trans q14)
          refine ⟨t1, t2, nx, kx, bx, n6, ks6, bs6, it, rfl, q14 _ _ et1, et2, okx, ok6.net, ki.keep k14, fun M15 q15 => .inr (.inl ⟨_, rfl, ?_⟩)⟩
          simp only [Ss.wp, S.wp, E.wp, E.wpT, Es.wp, Es.wpV, Es.wpT, Oe.wpO, Oe.wpT, Wk.wp, wSeq, wRet, wRetN, wNext, wNever, wDrop, wAsg, wIfS, wFor, wPar, wPar3, wFldS, wSetI, wSetK, wDnew, wMeth, wBm, wAndV, wOrV, wNotV, wAnd, wOr, wNot, wTest, wTru, wIf, w1, w2, w3, wVar, wC, wNil, wCons, wTup, wLst, wCall, wCallK, wO0, wO1, wSl, wLc, wISeq, wIR1, wIR2, wIZip, wIStr, wIEn, wDc, DcK.emp, Wk.wp, binF, cmpF, isaD, negD, Blt.spec, Bm.spec, Bm.ty, List.getElem?_cons_zero, List.getElem?_cons_succ, Option.some.injEq, exists_eq_left', exists_eq_left, exists_and_left, List.set_cons_zero, List.set_cons_succ, asn_name, asn_tup, asns_nil, asns_name, wipeD, tru_bl, tru_int, tru_non, tru_tup, bodyEnds, List.map_cons, List.map_nil, ↓reduceIte, Bool.false_eq_true, and_true, true_and, D.str.injEq, D.int.injEq, D.ref.injEq, D.tup.injEq, D.bl.injEq, add_ii, add_ss, add_tt, mul_ii, int_ii, abs_i, int_i, int_b, eq_ii, eq_ss, lt_ii, le_ii, gt_ii, ge_ii, ix_0, ix_1, ix_2, len_tt, tup_n, decide_true, Bool.not_true]
          refine ⟨n6, ks6, bs6, rfl, ok6.net, fun M16 t3 q16 ht3 et3 => ?_⟩
          refine ⟨nx, kx, bx, rfl, okx, fun M17 t4 q17 ht4 et4 => ?_⟩
          have k17 := k14.trans (q15.trans (q16.trans q17))
          refine ⟨t4, t3, nx, kx, bx, n6, ks6, bs6, it, rfl, et4, q17 _ _ et3, okx, ok6.net, ki.keep k17, fun M18 q18 => .inr (.inl ⟨_, rfl, ?_⟩)⟩
          simp only [Ss.wp, S.wp, E.wp, E.wpT, Es.wp, Es.wpV, Es.wpT, Oe.wpO, Oe.wpT, Wk.wp, wSeq, wRet, wRetN, wNext, wNever, wDrop, wAsg, wIfS, wFor, wPar, wPar3, wFldS, wSetI, wSetK, wDnew, wMeth, wBm, wAndV, wOrV, wNotV, wAnd, wOr, wNot, wTest, wTru, wIf, w1, w2, w3, wVar, wC, wNil, wCons, wTup, wLst, wCall, wCallK, wO0, wO1, wSl, wLc, wISeq, wIR1, wIR2, wIZip, wIStr, wIEn, wDc, DcK.emp, Wk.wp, binF, cmpF, isaD, negD, Blt.spec, Bm.spec, Bm.ty, List.getElem?_cons_zero, List.getElem?_cons_succ, Option.some.injEq, exists_eq_left', exists_eq_left, exists_and_left, List.set_cons_zero, List.set_cons_succ, asn_name, asn_tup, asns_nil, asns_name, wipeD, tru_bl, tru_int, tru_non, tru_tup, bodyEnds, List.map_cons, List.map_nil, ↓reduceIte, Bool.false_eq_true, and_true, true_and, D.str.injEq, D.int.injEq, D.ref.injEq, D.tup.injEq, D.bl.injEq, add_ii, add_ss, add_tt, mul_ii, int_ii, abs_i, int_i, int_b, eq_ii, eq_ss, lt_ii, le_ii, gt_ii, ge_ii, ix_0, ix_1, ix_2, len_tt, tup_n, decide_true, Bool.not_true]
          exact hk11 _ M18 ⟨q11.trans (k17.trans q18), _, _, rfl⟩
        · obtain ⟨q11, v9', v12', rfl⟩ := hJ
          simp only [Ss.wp, S.wp, E.wp, E.wpT, Es.wp, Es.wpV, Es.wpT, Oe.wpO, Oe.wpT, Wk.wp, wSeq, wRet, wRetN, wNext, wNever, wDrop, wAsg, wIfS, wFor, wPar, wPar3, wFldS, wSetI, wSetK, wDnew, wMeth, wBm, wAndV, wOrV, wNotV, wAnd, wOr, wNot, wTest, wTru, wIf, w1, w2, w3, wVar, wC, wNil, wCons, wTup, wLst, wCall, wCallK, wO0, wO1, wSl, wLc, wISeq, wIR1, wIR2, wIZip, wIStr, wIEn, wDc, DcK.emp, Wk.wp, binF, cmpF, isaD, negD, Blt.spec, Bm.spec, Bm.ty, List.getElem?_cons_zero, List.getElem?_cons_succ, Option.some.injEq, exists_eq_left', exists_eq_left, exists_and_left, List.set_cons_zero, List.set_cons_succ, asn_name, asn_tup, asns_nil, asns_name, wipeD, tru_bl, tru_int, tru_non, tru_tup, bodyEnds, List.map_cons, List.map_nil, ↓reduceIte, Bool.false_eq_true, and_true, true_and, D.str.injEq, D.int.injEq, D.ref.injEq, D.tup.injEq, D.bl.injEq, add_ii, add_ss, add_tt, mul_ii, int_ii, abs_i, int_i, int_b, eq_ii, eq_ss, lt_ii, le_ii, gt_ii, ge_ii, ix_0, ix_1, ix_2, len_tt, tup_n]
          exact hk9 _ M11 ⟨q9.trans (k10.trans q11), _, _, _, rfl⟩
      · obtain ⟨q9, v7', v9', v12', rfl⟩ := hJ
        simp only [Ss.wp, S.wp, E.wp, E.wpT, Es.wp, Es.wpV, Es.wpT, Oe.wpO, Oe.wpT, Wk.wp, wSeq, wRet, wRetN, wNext, wNever, wDrop, wAsg, wIfS, wFor, wPar, wPar3, wFldS, wSetI, wSetK, wDnew, wMeth, wBm, wAndV, wOrV, wNotV, wAnd, wOr, wNot, wTest, wTru, wIf, w1, w2, w3, wVar, wC, wNil, wCons, wTup, wLst, wCall, wCallK, wO0, wO1, wSl, wLc, wISeq, wIR1, wIR2, wIZip, wIStr, wIEn, wDc, DcK.emp, Wk.wp, binF, cmpF, isaD, negD, Blt.spec, Bm.spec, Bm.ty, List.getElem?_cons_zero, List.getElem?_cons_succ, Option.some.injEq, exists_eq_left', exists_eq_left, exists_and_left, List.set_cons_zero, List.set_cons_succ, asn_name, asn_tup, asns_nil, asns_name, wipeD, tru_bl, tru_int, tru_non, tru_tup, bodyEnds, List.map_cons, List.map_nil, ↓reduceIte, Bool.false_eq_true, and_true, true_and, D.str.injEq, D.int.injEq, D.ref.injEq, D.tup.injEq, D.bl.injEq, add_ii, add_ss, add_tt, mul_ii, int_ii, abs_i, int_i, int_b, eq_ii, eq_ss, lt_ii, le_ii, gt_ii, ge_ii, ix_0, ix_1, ix_2, len_tt, tup_n]
        have hp9 := q9 _ _ hp8
        have := ok6.net.k1
        refine ⟨by unfold small62; omega, by rw [rng_len, sizeLine_eq]; omega, ?_⟩
        refine lcGo_inv (T := ⟨rngI 0 n6, fun _ => True⟩) (fun done acc M10 => Keep M9 M10 ∧ ∃ mv : List Int, acc = mv.map D.int ∧ mv.length = done.length ∧ ∀ i ∈ mv, 0 ≤ i ∧ i < 4) (fun _ _ _ _ => trivial) _ [] [] M9 ⟨.refl _, [], rfl, rfl, fun i hi => by cases hi⟩ (fun x hx done5 acc M10 kk hJ hkk => ?_) fun acc M10 hJ r hr => ?_
        · obtain ⟨k10, mv, rfl, hl, hmv⟩ := hJ
          refine ⟨_, rfl, yes_if ?_⟩
          simp only [Ss.wp, S.wp, E.wp, E.wpT, Es.wp, Es.wpV, Es.wpT, Oe.wpO, Oe.wpT, Wk.wp, wSeq, wRet, wRetN, wNext, wNever, wDrop, wAsg, wIfS, wFor, wPar, wPar3, wFldS, wSetI, wSetK, wDnew, wMeth, wBm, wAndV, wOrV, wNotV, wAnd, wOr, wNot, wTest, wTru, wIf, w1, w2, w3, wVar, wC, wNil, wCons, wTup, wLst, wCall, wCallK, wO0, wO1, wSl, wLc, wISeq, wIR1, wIR2, wIZip, wIStr, wIEn, wDc, DcK.emp, Wk.wp, binF, cmpF, isaD, negD, Blt.spec, Bm.spec, Bm.ty, List.getElem?_cons_zero, List.getElem?_cons_succ, Option.some.injEq, exists_eq_left', exists_eq_left, exists_and_left, List.set_cons_zero, List.set_cons_succ, asn_name, asn_tup, asns_nil, asns_name, wipeD, tru_bl, tru_int, tru_non, tru_tup, bodyEnds, List.map_cons, List.map_nil, ↓reduceIte, Bool.false_eq_true, and_true, true_and, D.str.injEq, D.int.injEq, D.ref.injEq, D.tup.injEq, D.bl.injEq, add_ii, add_ss, add_tt, mul_ii, int_ii, abs_i, int_i, int_b, eq_ii, eq_ss, lt_ii, le_ii, gt_ii, ge_ii, ix_0, ix_1, ix_2, len_tt, tup_n]
          refine ⟨p, 4, rfl, k10 _ _ hp9, by decide, by decide, fun r r0 r1 => hkk _ _ ⟨k10, mv ++ [r], ?_, ?_, fun i hi => ?_⟩⟩
          · rw [List.map_append]; rfl
          · rw [List.length_append, List.length_append, hl]; rfl
          · rcases List.mem_append.mp hi with hi | hi
            · exact hmv i hi
            · rw [List.mem_singleton.mp hi]; exact ⟨r0, r1⟩
        · obtain ⟨k10, mv, rfl, hl, hmv⟩ := hJ
          rw [List.nil_append, rng_len] at hl
          have lmv : (mv.length : Int) = n6 := by have := ok6.net.k0; omega
          have hv' : ∀ i ∈ vals, 0 ≤ i ∧ i < mv.length := fun i hi => by have := hv i hi; omega
          have hx : ∀ x ∈ vals.map D.int, ∃ i : Int, x = .int i ∧ 0 ≤ i ∧ i < (mv.map D.int).length := fun x hx => by
            obtain ⟨i, hi, rfl⟩ := List.mem_map.mp hx
            refine ⟨i, rfl, (hv' i hi).1, ?_⟩
            rw [List.length_map]
            exact (hv' i hi).2
          have zv : (vals.map D.int).length ≤ sizeLine := by rw [List.length_map, sizeLine_eq]; omega
          have k11 : Keep M9 (up M10 r (.lst (mv.map D.int))) := k10.trans (.new hr)
          generalize up M10 r (.lst (mv.map D.int)) = M11 at k11 ⊢
          have li : ∀ i ∈ vals.map (spA mv), i.natAbs < 100 := fun i hi => by
            obtain ⟨j, hj, rfl⟩ := List.mem_map.mp hi
            have := hmv _ (spA_mem (hv' j hj).1 (hv' j hj).2)
            omega
          have lz : (vals.map (spA mv)).length ≤ 100 := by rw [List.length_map]; omega
          refine ⟨_, seqT_t, zv, led_go (R := fun acc M => reprS [.tup acc] M _) hx (fun x => ⟨_, rfl, fun M2 q w => ?_⟩) fun M12 k12 => ?_⟩
          · simp only [Ss.wp, S.wp, E.wp, E.wpT, Es.wp, Es.wpV, Es.wpT, Oe.wpO, Oe.wpT, Wk.wp, wSeq, wRet, wRetN, wNext, wNever, wDrop, wAsg, wIfS, wFor, wPar, wPar3, wFldS, wSetI, wSetK, wDnew, wMeth, wBm, wAndV, wOrV, wNotV, wAnd, wOr, wNot, wTest, wTru, wIf, w1, w2, w3, wVar, wC, wNil, wCons, wTup, wLst, wCall, wCallK, wO0, wO1, wSl, wLc, wISeq, wIR1, wIR2, wIZip, wIStr, wIEn, wDc, DcK.emp, Wk.wp, binF, cmpF, isaD, negD, Blt.spec, Bm.spec, Bm.ty, List.getElem?_cons_zero, List.getElem?_cons_succ, Option.some.injEq, exists_eq_left', exists_eq_left, exists_and_left, List.set_cons_zero, List.set_cons_succ, asn_name, asn_tup, asns_nil, asns_name, wipeD, tru_bl, tru_int, tru_non, tru_tup, bodyEnds, List.map_cons, List.map_nil, ↓reduceIte, Bool.false_eq_true, and_true, true_and, D.str.injEq, D.int.injEq, D.ref.injEq, D.tup.injEq, D.bl.injEq, add_ii, add_ss, add_tt, mul_ii, int_ii, abs_i, int_i, int_b, eq_ii, eq_ss, lt_ii, le_ii, gt_ii, ge_ii, ix_0, ix_1, ix_2, len_tt, tup_n]
            exact w
          · rw [led_ints hv']
            refine repr_ints lz li ?_
            refine ⟨_, _, rfl, zv, hx, fun M13 k13 => ?_⟩
            rw [led_ints hv']
            refine repr_ints lz li ?_
            simp only [Ss.wp, S.wp, E.wp, E.wpT, Es.wp, Es.wpV, Es.wpT, Oe.wpO, Oe.wpT, Wk.wp, wSeq, wRet, wRetN, wNext, wNever, wDrop, wAsg, wIfS, wFor, wPar, wPar3, wFldS, wSetI, wSetK, wDnew, wMeth, wBm, wAndV, wOrV, wNotV, wAnd, wOr, wNot, wTest, wTru, wIf, w1, w2, w3, wVar, wC, wNil, wCons, wTup, wLst, wCall, wCallK, wO0, wO1, wSl, wLc, wISeq, wIR1, wIR2, wIZip, wIStr, wIEn, wDc, DcK.emp, Wk.wp, binF, cmpF, isaD, negD, Blt.spec, Bm.spec, Bm.ty, List.getElem?_cons_zero, List.getElem?_cons_succ, Option.some.injEq, exists_eq_left', exists_eq_left, exists_and_left, List.set_cons_zero, List.set_cons_succ, asn_name, asn_tup, asns_nil, asns_name, wipeD, tru_bl, tru_int, tru_non, tru_tup, bodyEnds, List.map_cons, List.map_nil, ↓reduceIte, Bool.false_eq_true, and_true, true_and, D.str.injEq, D.int.injEq, D.ref.injEq, D.tup.injEq, D.bl.injEq, add_ii, add_ss, add_tt, mul_ii, int_ii, abs_i, int_i, int_b, eq_ii, eq_ss, lt_ii, le_ii, gt_ii, ge_ii, ix_0, ix_1, ix_2, len_tt, tup_n, decide_true, Bool.not_true]
            exact hk' _ M13 ⟨k4.trans (k5.trans (k6.trans (k7.trans (k8.trans (q9.trans (k11.trans (k12.trans k13))))))), _, _, _, _, _, _, _, _, _, _, rfl⟩
    · obtain ⟨k4, v3, v4, v5, v6, v7, v8, v9, v10, v11, v12, rfl⟩ := hJ
      exact hk _ _ ⟨k2.trans (k3.trans k4), _, _, _, _, _, _, _, _, _, _, _, _, rfl⟩
  · obtain ⟨k2, v1, v2, v3, v4, v5, v6, v7, v8, v9, v10, v11, v12, rfl⟩ := hJ
    simp only [Ss.wp, S.wp, E.wp, E.wpT, Es.wp, Es.wpV, Es.wpT, Oe.wpO, Oe.wpT, Wk.wp, wSeq, wRet, wRetN, wNext, wNever, wDrop, wAsg, wIfS, wFor, wPar, wPar3, wFldS, wSetI, wSetK, wDnew, wMeth, wBm, wAndV, wOrV, wNotV, wAnd, wOr, wNot, wTest, wTru, wIf, w1, w2, w3, wVar, wC, wNil, wCons, wTup, wLst, wCall, wCallK, wO0, wO1, wSl, wLc, wISeq, wIR1, wIR2, wIZip, wIStr, wIEn, wDc, DcK.emp, Wk.wp, binF, cmpF, isaD, negD, Blt.spec, Bm.spec, Bm.ty, List.getElem?_cons_zero, List.getElem?_cons_succ, Option.some.injEq, exists_eq_left', exists_eq_left, exists_and_left, List.set_cons_zero, List.set_cons_succ, asn_name, asn_tup, asns_nil, asns_name, wipeD, tru_bl, tru_int, tru_non, tru_tup, bodyEnds, List.map_cons, List.map_nil, ↓reduceIte, Bool.false_eq_true, and_true, true_and, D.str.injEq, D.int.injEq, D.ref.injEq, D.tup.injEq, D.bl.injEq, add_ii, add_ss, add_tt, mul_ii, int_ii, abs_i, int_i, int_b, eq_ii, eq_ss, lt_ii, le_ii, gt_ii, ge_ii, ix_0, ix_1, ix_2, len_tt, tup_n]
    exact h M2 k2
theorem use_is_leading (c : Cs) (ds : List D) (M : Mp) (Q : DQ) (z : szs ds) (zm : szM M) (h : S_is_leading c ds M Q) : (ir_is_leading c).wp (bodyEnds Q) (startD N_is_leading ds) M := by
  obtain ⟨a, b, n1, ks, bs, n2, ks2, bs2, d, rfl, ha, hb, o1, o2, hk, h⟩ := h
  exact wp_is_leading c ha hb o1 o2 hk h
theorem use_led_back (c : Cs) (ds : List D) (M : Mp) (Q : DQ) (z : szs ds) (zm : szM M) (h : S_led_back c ds M Q) : (ir_led_back c).wp (bodyEnds Q) (startD N_led_back ds) M := by
  obtain ⟨xs, fs, rfl, zx, hx, h⟩ := h
  exact wp_led_back c zx hx h
theorem use_l_net (c : Cs) (ds : List D) (M : Mp) (Q : DQ) (z : szs ds) (zm : szM M) (h : S_l_net c ds M Q) : (ir_l_net c).wp (bodyEnds Q) (startD N_l_net ds) M := by
  obtain ⟨n, ks, bs, rfl, ok, h⟩ := h
  exact wp_l_net c ok h
theorem use_l_drawn_back (c : Cs) (ds : List D) (M : Mp) (Q : DQ) (z : szs ds) (zm : szM M) (h : S_l_drawn_back c ds M Q) : (ir_l_drawn_back c).wp (bodyEnds Q) (startD N_l_drawn_back ds) M := by
  obtain ⟨p, n, ks, bs, many, rfl, hp, ok, zk, zb, m0, m6, hn, h⟩ := h
  exact wp_l_drawn_back c hp ok zk zb m0 m6 hn h
theorem use_l_due (c : Cs) (ds : List D) (M : Mp) (Q : DQ) (z : szs ds) (zm : szM M) (h : S_l_due c ds M Q) : (ir_l_due c).wp (bodyEnds Q) (startD N_l_due ds) M := by
  obtain ⟨n1, ks, bs, n2, ks2, bs2, d, rfl, o1, o2, hk, h⟩ := h
  exact wp_l_due c (szs_2 z) o1 o2 hk h
theorem use_l_bent (c : Cs) (ds : List D) (M : Mp) (Q : DQ) (z : szs ds) (zm : szM M) (h : S_l_bent c ds M Q) : (ir_l_bent c).wp (bodyEnds Q) (startD N_l_bent ds) M := by
  obtain ⟨p, n, ks, bs, spots, rfl, hp, n0, n1, hs, zs, h⟩ := h
  exact wp_l_bent c hp n0 n1 hs zs h
theorem use_law (c : Cs) (ds : List D) (M : Mp) (Q : DQ) (z : szs ds) (zm : szM M) (h : S_law c ds M Q) : (ir_law c).wp (bodyEnds Q) (startD N_law ds) M := by
  obtain ⟨a, ns, rfl, ha, hz, h⟩ := h
  exact wp_law c ha hz h
end DL

set_option Elab.async false
set_option linter.all false
set_option maxRecDepth 100000
set_option maxHeartbeats 0
/-! the law's text linked: statements, matches, promises, the head. -/
namespace DL
open PySem PySem.Spec PyProof.Rows L2
def topS (i : Nat) : Stmt := PySem.Challenge.pw_setshouse_k41_leadings_looked_at.main.body.getD i (.Pass ⟨0, 0, 0, 0⟩)
structure Lw (P : Program) (w : World) (K : PySem.W.Frag) (mg : Str → Option Value) (base : Heap) (c : Cs) : Prop where
  cP : c.P = P
  cw : c.w = w
  nd : base.NoDigits
  b_abs : mg "abs" = none
  b_all : mg "all" = none
  b_bool : mg "bool" = none
  b_int : mg "int" = none
  b_isinstance : mg "isinstance" = none
  b_len : mg "len" = none
  b_list : mg "list" = none
  b_max : mg "max" = none
  b_min : mg "min" = none
  b_range : mg "range" = none
  b_repr : mg "repr" = none
  b_sorted : mg "sorted" = none
  b_str : mg "str" = none
  b_tuple : mg "tuple" = none
  b_zip : mg "zip" = none
  g_LETTERS : GlD K mg "LETTERS" (.str "abcdefghijklmnopqrstuvwxyz")
  g_MOST_KNOTS : GlD K mg "MOST_KNOTS" (.int 60)
  g_MOST_LABELS : GlD K mg "MOST_LABELS" (.int 400)
  g_MOST_LETTERS : GlD K mg "MOST_LETTERS" (.int 6)
  g_MOST_LINKS : GlD K mg "MOST_LINKS" (.int 700)
  m_Net : mg "Net" = some (.ref c.Net)
  c_Net : ClsF K c.Net
  f_Net_knots : Cf K c.Net "knots"
  f_Net_labels : Cf K c.Net "labels"
  f_Net_links : Cf K c.Net "links"
abbrev s_l_take : Stmt := topS 21
abbrev P_l_take : List Str := ["_law_pot_here", "_law_upto"]
theorem mt_l_take (c : Cs) : (ir_l_take c).mt ⟨N_l_take, defScope s_l_take, fun _ => true⟩ (defBody s_l_take) = true := by kernel_rfl
theorem sc_l_take : FnScope N_l_take P_l_take (defScope s_l_take) := C8.fnScope_by (by decide +kernel)
theorem len_l_take (c : Cs) (ds : List D) (M : Mp) (Q : DQ) (h : S_l_take c ds M Q) : ds.length = P_l_take.length := by
  unfold S_l_take at h
  repeat (first | (obtain ⟨rfl, _⟩ := h; rfl; done) | (obtain ⟨_, h⟩ := h))
theorem ok_l_take {P : Program} {w : World} {K : PySem.W.Frag} {mg : Str → Option Value} {base : Heap} {f : Addr} {fd : FuncData} {c : Cs} (L : Lw P w K mg base c) (F : FunD K "_law_take" "_law_take" (defArgs s_l_take) (defBody s_l_take) (defScope s_l_take) [] [] f fd)  : FnOk P w K mg base CX0 1 f fd P_l_take (spD K (S_l_take c)) := by
  refine fn_okG (k := 0) F sc_l_take (ir_l_take c) (len_l_take c) (mt_l_take c) (fun A hr => ?_) (useP_l_take c)
  simp only [ir_l_take, Ss.ok, S.ok, E.ok, Es.ok, Oe.ok, Wk.ok, Es.len, Blt.nm, Blt.isRepr, Bool.false_eq_true, false_implies, and_true, true_and, Nat.zero_add, Nat.reduceAdd, List.length_cons, List.length_nil]
  repeat' (first | exact trivial | rfl | exact L.cP | exact L.cw | apply And.intro)
abbrev s_l_bent : Stmt := topS 31
abbrev P_l_bent : List Str := ["_law_pot_here", "_law_mesh_here", "_law_spots"]
theorem mt_l_bent (c : Cs) : (ir_l_bent c).mt ⟨N_l_bent, defScope s_l_bent, fun _ => true⟩ (defBody s_l_bent) = true := by kernel_rfl
theorem sc_l_bent : FnScope N_l_bent P_l_bent (defScope s_l_bent) := C8.fnScope_by (by decide +kernel)
theorem len_l_bent (c : Cs) (ds : List D) (M : Mp) (Q : DQ) (h : S_l_bent c ds M Q) : ds.length = P_l_bent.length := by
  unfold S_l_bent at h
  repeat (first | (obtain ⟨rfl, _⟩ := h; rfl; done) | (obtain ⟨_, h⟩ := h))
theorem ok_l_bent {P : Program} {w : World} {K : PySem.W.Frag} {mg : Str → Option Value} {base : Heap} {f : Addr} {fd : FuncData} {c : Cs} (L : Lw P w K mg base c) (F : FunD K "_law_bent" "_law_bent" (defArgs s_l_bent) (defBody s_l_bent) (defScope s_l_bent) [] [] f fd) (h0 : Pr P w K mg base 1 "_law_take" 2 [] (S_l_take c)) : FnOk P w K mg base CX0 2 f fd P_l_bent (spD K (S_l_bent c)) := by
  refine fn_okP (k := 1) F sc_l_bent (ir_l_bent c) (len_l_bent c) (mt_l_bent c) (fun A hr => ?_) (use_l_bent c)
  have qh0 := h0 A (hr.mono (by decide))
  simp only [ir_l_bent, Ss.ok, S.ok, E.ok, Es.ok, Oe.ok, Wk.ok, Es.len, Blt.nm, Blt.isRepr, Bool.false_eq_true, false_implies, and_true, true_and, Nat.zero_add, Nat.reduceAdd, List.length_cons, List.length_nil]
  repeat' (first | exact trivial | rfl | exact qh0 | exact L.b_len | exact L.b_list | exact L.b_max | exact L.cP | exact L.cw | apply And.intro)
abbrev s_l_drawn_back : Stmt := topS 29
abbrev P_l_drawn_back : List Str := ["_law_pot_here", "_law_mesh_here", "_law_many"]
theorem mt_l_drawn_back (c : Cs) : (ir_l_drawn_back c).mt ⟨N_l_drawn_back, defScope s_l_drawn_back, fun _ => true⟩ (defBody s_l_drawn_back) = true := by kernel_rfl
theorem sc_l_drawn_back : FnScope N_l_drawn_back P_l_drawn_back (defScope s_l_drawn_back) := C8.fnScope_by (by decide +kernel)
theorem len_l_drawn_back (c : Cs) (ds : List D) (M : Mp) (Q : DQ) (h : S_l_drawn_back c ds M Q) : ds.length = P_l_drawn_back.length := by
  unfold S_l_drawn_back at h
  repeat (first | (obtain ⟨rfl, _⟩ := h; rfl; done) | (obtain ⟨_, h⟩ := h))
theorem ok_l_drawn_back {P : Program} {w : World} {K : PySem.W.Frag} {mg : Str → Option Value} {base : Heap} {f : Addr} {fd : FuncData} {c : Cs} (L : Lw P w K mg base c) (F : FunD K "_law_drawn_back" "_law_drawn_back" (defArgs s_l_drawn_back) (defBody s_l_drawn_back) (defScope s_l_drawn_back) [] [] f fd) (h0 : Pr P w K mg base 1 "_law_take" 2 [] (S_l_take c)) : FnOk P w K mg base CX0 2 f fd P_l_drawn_back (spD K (S_l_drawn_back c)) := by
  refine fn_okP (k := 1) F sc_l_drawn_back (ir_l_drawn_back c) (len_l_drawn_back c) (mt_l_drawn_back c) (fun A hr => ?_) (use_l_drawn_back c)
  have qh0 := h0 A (hr.mono (by decide))
  simp only [ir_l_drawn_back, Ss.ok, S.ok, E.ok, Es.ok, Oe.ok, Wk.ok, Es.len, Blt.nm, Blt.isRepr, Bool.false_eq_true, false_implies, and_true, true_and, Nat.zero_add, Nat.reduceAdd, List.length_cons, List.length_nil]
  repeat' (first | exact trivial | rfl | exact qh0 | exact L.b_sorted | exact L.b_tuple | exact L.b_range | exact L.cP | exact L.cw | apply And.intro)
abbrev s_l_due : Stmt := topS 30
abbrev P_l_due : List Str := ["_law_small", "_law_mesh_here", "_law_item"]
theorem mt_l_due (c : Cs) : (ir_l_due c).mt ⟨N_l_due, defScope s_l_due, fun _ => true⟩ (defBody s_l_due) = true := by kernel_rfl
theorem sc_l_due : FnScope N_l_due P_l_due (defScope s_l_due) := C8.fnScope_by (by decide +kernel)
theorem len_l_due (c : Cs) (ds : List D) (M : Mp) (Q : DQ) (h : S_l_due c ds M Q) : ds.length = P_l_due.length := by
  unfold S_l_due at h
  repeat (first | (obtain ⟨rfl, _⟩ := h; rfl; done) | (obtain ⟨_, h⟩ := h))
theorem ok_l_due {P : Program} {w : World} {K : PySem.W.Frag} {mg : Str → Option Value} {base : Heap} {f : Addr} {fd : FuncData} {c : Cs} (L : Lw P w K mg base c) (F : FunD K "_law_due" "_law_due" (defArgs s_l_due) (defBody s_l_due) (defScope s_l_due) [] [] f fd)  : FnOk P w K mg base CX0 1 f fd P_l_due (spD K (S_l_due c)) := by
  refine fn_okP (k := 0) F sc_l_due (ir_l_due c) (len_l_due c) (mt_l_due c) (fun A hr => ?_) (use_l_due c)
  simp only [ir_l_due, Ss.ok, S.ok, E.ok, Es.ok, Oe.ok, Wk.ok, Es.len, Blt.nm, Blt.isRepr, Bool.false_eq_true, false_implies, and_true, true_and, Nat.zero_add, Nat.reduceAdd, List.length_cons, List.length_nil]
  repeat' (first | exact trivial | rfl | exact L.b_all | exact L.b_len | exact isaB_ok L.b_isinstance L.b_bool (by decide) | exact isaB_ok L.b_isinstance L.b_int (by decide) | exact isaB_ok L.b_isinstance L.b_tuple (by decide) | exact L.cP | exact L.cw | apply And.intro)
abbrev s_l_of : Stmt := topS 22
abbrev P_l_of : List Str := ["_law_pot_here", "_law_some"]
theorem mt_l_of (c : Cs) : (ir_l_of c).mt ⟨N_l_of, defScope s_l_of, fun _ => true⟩ (defBody s_l_of) = true := by kernel_rfl
theorem sc_l_of : FnScope N_l_of P_l_of (defScope s_l_of) := C8.fnScope_by (by decide +kernel)
theorem len_l_of (c : Cs) (ds : List D) (M : Mp) (Q : DQ) (h : S_l_of c ds M Q) : ds.length = P_l_of.length := by
  unfold S_l_of at h
  repeat (first | (obtain ⟨rfl, _⟩ := h; rfl; done) | (obtain ⟨_, h⟩ := h))
theorem ok_l_of {P : Program} {w : World} {K : PySem.W.Frag} {mg : Str → Option Value} {base : Heap} {f : Addr} {fd : FuncData} {c : Cs} (L : Lw P w K mg base c) (F : FunD K "_law_of" "_law_of" (defArgs s_l_of) (defBody s_l_of) (defScope s_l_of) [] [] f fd) (h0 : Pr P w K mg base 1 "_law_take" 2 [] (S_l_take c)) : FnOk P w K mg base CX0 2 f fd P_l_of (spD K (S_l_of c)) := by
  refine fn_okP (k := 1) F sc_l_of (ir_l_of c) (len_l_of c) (mt_l_of c) (fun A hr => ?_) (use_l_of c)
  have qh0 := h0 A (hr.mono (by decide))
  simp only [ir_l_of, Ss.ok, S.ok, E.ok, Es.ok, Oe.ok, Wk.ok, Es.len, Blt.nm, Blt.isRepr, Bool.false_eq_true, false_implies, and_true, true_and, Nat.zero_add, Nat.reduceAdd, List.length_cons, List.length_nil]
  repeat' (first | exact trivial | rfl | exact qh0 | exact L.b_len | exact L.cP | exact L.cw | apply And.intro)
abbrev s_l_names : Stmt := topS 23
abbrev P_l_names : List Str := ["_law_pot_here", "_law_many"]
theorem mt_l_names (c : Cs) : (ir_l_names c).mt ⟨N_l_names, defScope s_l_names, fun _ => true⟩ (defBody s_l_names) = true := by kernel_rfl
theorem sc_l_names : FnScope N_l_names P_l_names (defScope s_l_names) := C8.fnScope_by (by decide +kernel)
theorem len_l_names (c : Cs) (ds : List D) (M : Mp) (Q : DQ) (h : S_l_names c ds M Q) : ds.length = P_l_names.length := by
  unfold S_l_names at h
  repeat (first | (obtain ⟨rfl, _⟩ := h; rfl; done) | (obtain ⟨_, h⟩ := h))
theorem ok_l_names {P : Program} {w : World} {K : PySem.W.Frag} {mg : Str → Option Value} {base : Heap} {f : Addr} {fd : FuncData} {c : Cs} (L : Lw P w K mg base c) (F : FunD K "_law_names" "_law_names" (defArgs s_l_names) (defBody s_l_names) (defScope s_l_names) [] [] f fd) (h0 : Pr P w K mg base 2 "_law_of" 2 [] (S_l_of c)) (h1 : Pr P w K mg base 1 "_law_take" 2 [] (S_l_take c)) : FnOk P w K mg base CX0 3 f fd P_l_names (spD K (S_l_names c)) := by
  refine fn_okP (k := 2) F sc_l_names (ir_l_names c) (len_l_names c) (mt_l_names c) (fun A hr => ?_) (use_l_names c)
  have qh0 := h0 A (hr.mono (by decide))
  have qh1 := h1 A (hr.mono (by decide))
  simp only [ir_l_names, Ss.ok, S.ok, E.ok, Es.ok, Oe.ok, Wk.ok, Es.len, Blt.nm, Blt.isRepr, Bool.false_eq_true, false_implies, and_true, true_and, Nat.zero_add, Nat.reduceAdd, List.length_cons, List.length_nil]
  repeat' (first | exact trivial | rfl | exact qh0 | exact qh1 | exact L.b_len | exact L.b_list | exact L.b_sorted | exact L.b_range | exact L.cP | exact L.cw | apply And.intro)
abbrev s_l_all_pairs : Stmt := topS 24
abbrev P_l_all_pairs : List Str := ["_law_size"]
theorem mt_l_all_pairs (c : Cs) : (ir_l_all_pairs c).mt ⟨N_l_all_pairs, defScope s_l_all_pairs, fun _ => true⟩ (defBody s_l_all_pairs) = true := by kernel_rfl
theorem sc_l_all_pairs : FnScope N_l_all_pairs P_l_all_pairs (defScope s_l_all_pairs) := C8.fnScope_by (by decide +kernel)
theorem len_l_all_pairs (c : Cs) (ds : List D) (M : Mp) (Q : DQ) (h : S_l_all_pairs c ds M Q) : ds.length = P_l_all_pairs.length := by
  unfold S_l_all_pairs at h
  repeat (first | (obtain ⟨rfl, _⟩ := h; rfl; done) | (obtain ⟨_, h⟩ := h))
theorem ok_l_all_pairs {P : Program} {w : World} {K : PySem.W.Frag} {mg : Str → Option Value} {base : Heap} {f : Addr} {fd : FuncData} {c : Cs} (L : Lw P w K mg base c) (F : FunD K "_law_all_pairs" "_law_all_pairs" (defArgs s_l_all_pairs) (defBody s_l_all_pairs) (defScope s_l_all_pairs) [] [] f fd)  : FnOk P w K mg base CX0 1 f fd P_l_all_pairs (spD K (S_l_all_pairs c)) := by
  refine fn_okP (k := 0) F sc_l_all_pairs (ir_l_all_pairs c) (len_l_all_pairs c) (mt_l_all_pairs c) (fun A hr => ?_) (use_l_all_pairs c)
  simp only [ir_l_all_pairs, Ss.ok, S.ok, E.ok, Es.ok, Oe.ok, Wk.ok, Es.len, Blt.nm, Blt.isRepr, Bool.false_eq_true, false_implies, and_true, true_and, Nat.zero_add, Nat.reduceAdd, List.length_cons, List.length_nil]
  repeat' (first | exact trivial | rfl | exact L.b_range | exact L.cP | exact L.cw | apply And.intro)
abbrev s_l_pairs : Stmt := topS 25
abbrev P_l_pairs : List Str := ["_law_pot_here", "_law_size"]
theorem mt_l_pairs (c : Cs) : (ir_l_pairs c).mt ⟨N_l_pairs, defScope s_l_pairs, fun _ => true⟩ (defBody s_l_pairs) = true := by kernel_rfl
theorem sc_l_pairs : FnScope N_l_pairs P_l_pairs (defScope s_l_pairs) := C8.fnScope_by (by decide +kernel)
theorem len_l_pairs (c : Cs) (ds : List D) (M : Mp) (Q : DQ) (h : S_l_pairs c ds M Q) : ds.length = P_l_pairs.length := by
  unfold S_l_pairs at h
  repeat (first | (obtain ⟨rfl, _⟩ := h; rfl; done) | (obtain ⟨_, h⟩ := h))
theorem ok_l_pairs {P : Program} {w : World} {K : PySem.W.Frag} {mg : Str → Option Value} {base : Heap} {f : Addr} {fd : FuncData} {c : Cs} (L : Lw P w K mg base c) (F : FunD K "_law_pairs" "_law_pairs" (defArgs s_l_pairs) (defBody s_l_pairs) (defScope s_l_pairs) [] [] f fd) (h0 : Pr P w K mg base 1 "_law_all_pairs" 1 [] (S_l_all_pairs c)) (h1 : Pr P w K mg base 1 "_law_take" 2 [] (S_l_take c)) : FnOk P w K mg base CX0 2 f fd P_l_pairs (spD K (S_l_pairs c)) := by
  refine fn_okP (k := 1) F sc_l_pairs (ir_l_pairs c) (len_l_pairs c) (mt_l_pairs c) (fun A hr => ?_) (use_l_pairs c)
  have qh0 := h0 A (hr.mono (by decide))
  have qh1 := h1 A (hr.mono (by decide))
  simp only [ir_l_pairs, Ss.ok, S.ok, E.ok, Es.ok, Oe.ok, Wk.ok, Es.len, Blt.nm, Blt.isRepr, Bool.false_eq_true, false_implies, and_true, true_and, Nat.zero_add, Nat.reduceAdd, List.length_cons, List.length_nil]
  repeat' (first | exact trivial | rfl | exact qh0 | exact qh1 | exact L.b_tuple | exact L.b_range | exact L.cP | exact L.cw | apply And.intro)
abbrev s_l_home : Stmt := topS 26
abbrev P_l_home : List Str := ["_law_pot_here", "_law_most"]
theorem mt_l_home (c : Cs) : (ir_l_home c).mt ⟨N_l_home, defScope s_l_home, fun _ => true⟩ (defBody s_l_home) = true := by kernel_rfl
theorem sc_l_home : FnScope N_l_home P_l_home (defScope s_l_home) := C8.fnScope_by (by decide +kernel)
theorem len_l_home (c : Cs) (ds : List D) (M : Mp) (Q : DQ) (h : S_l_home c ds M Q) : ds.length = P_l_home.length := by
  unfold S_l_home at h
  repeat (first | (obtain ⟨rfl, _⟩ := h; rfl; done) | (obtain ⟨_, h⟩ := h))
theorem ok_l_home {P : Program} {w : World} {K : PySem.W.Frag} {mg : Str → Option Value} {base : Heap} {f : Addr} {fd : FuncData} {c : Cs} (L : Lw P w K mg base c) (F : FunD K "_law_home" "_law_home" (defArgs s_l_home) (defBody s_l_home) (defScope s_l_home) [] [] f fd) (h0 : Pr P w K mg base 3 "_law_names" 2 [] (S_l_names c)) (h1 : Pr P w K mg base 2 "_law_pairs" 2 [] (S_l_pairs c)) (h2 : Pr P w K mg base 1 "_law_take" 2 [] (S_l_take c)) : FnOk P w K mg base CX0 4 f fd P_l_home (spD K (S_l_home c)) := by
  refine fn_okP (k := 3) F sc_l_home (ir_l_home c) (len_l_home c) (mt_l_home c) (fun A hr => ?_) (use_l_home c)
  have qh0 := h0 A (hr.mono (by decide))
  have qh1 := h1 A (hr.mono (by decide))
  have qh2 := h2 A (hr.mono (by decide))
  simp only [ir_l_home, Ss.ok, S.ok, E.ok, Es.ok, Oe.ok, Wk.ok, Es.len, Blt.nm, Blt.isRepr, Bool.false_eq_true, false_implies, and_true, true_and, Nat.zero_add, Nat.reduceAdd, List.length_cons, List.length_nil]
  repeat' (first | exact trivial | rfl | exact qh0 | exact qh1 | exact qh2 | exact L.b_tuple | exact L.b_range | exact L.cP | exact L.cw | apply And.intro)
abbrev s_l_mesh : Stmt := topS 27
abbrev P_l_mesh : List Str := ["_law_pot_here", "_law_home_here", "_law_most", "_law_ties"]
theorem mt_l_mesh (c : Cs) : (ir_l_mesh c).mt ⟨N_l_mesh, defScope s_l_mesh, fun _ => true⟩ (defBody s_l_mesh) = true := by kernel_rfl
theorem sc_l_mesh : FnScope N_l_mesh P_l_mesh (defScope s_l_mesh) := C8.fnScope_by (by decide +kernel)
theorem len_l_mesh (c : Cs) (ds : List D) (M : Mp) (Q : DQ) (h : S_l_mesh c ds M Q) : ds.length = P_l_mesh.length := by
  unfold S_l_mesh at h
  repeat (first | (obtain ⟨rfl, _⟩ := h; rfl; done) | (obtain ⟨_, h⟩ := h))
theorem ok_l_mesh {P : Program} {w : World} {K : PySem.W.Frag} {mg : Str → Option Value} {base : Heap} {f : Addr} {fd : FuncData} {c : Cs} (L : Lw P w K mg base c) (F : FunD K "_law_mesh" "_law_mesh" (defArgs s_l_mesh) (defBody s_l_mesh) (defScope s_l_mesh) [] [] f fd) (h0 : Pr P w K mg base 2 "_law_of" 2 [] (S_l_of c)) (h1 : Pr P w K mg base 1 "_law_take" 2 [] (S_l_take c)) : FnOk P w K mg base CX0 3 f fd P_l_mesh (spD K (S_l_mesh c)) := by
  refine fn_okP (k := 2) F sc_l_mesh (ir_l_mesh c) (len_l_mesh c) (mt_l_mesh c) (fun A hr => ?_) (use_l_mesh c)
  have qh0 := h0 A (hr.mono (by decide))
  have qh1 := h1 A (hr.mono (by decide))
  simp only [ir_l_mesh, Ss.ok, S.ok, E.ok, Es.ok, Oe.ok, Wk.ok, Es.len, Blt.nm, Blt.isRepr, Bool.false_eq_true, false_implies, and_true, true_and, Nat.zero_add, Nat.reduceAdd, List.length_cons, List.length_nil]
  repeat' (first | exact trivial | rfl | exact qh0 | exact qh1 | exact L.b_int | exact L.b_list | exact L.b_sorted | exact L.b_tuple | exact L.b_range | exact L.cP | exact L.cw | apply And.intro)
abbrev s_are_rising : Stmt := topS 6
abbrev P_are_rising : List Str := ["some"]
theorem mt_are_rising (c : Cs) : (ir_are_rising c).mt ⟨N_are_rising, defScope s_are_rising, fun _ => true⟩ (defBody s_are_rising) = true := by kernel_rfl
theorem sc_are_rising : FnScope N_are_rising P_are_rising (defScope s_are_rising) := C8.fnScope_by (by decide +kernel)
theorem len_are_rising (c : Cs) (ds : List D) (M : Mp) (Q : DQ) (h : S_are_rising c ds M Q) : ds.length = P_are_rising.length := by
  unfold S_are_rising at h
  repeat (first | (obtain ⟨rfl, _⟩ := h; rfl; done) | (obtain ⟨_, h⟩ := h))
theorem ok_are_rising {P : Program} {w : World} {K : PySem.W.Frag} {mg : Str → Option Value} {base : Heap} {f : Addr} {fd : FuncData} {c : Cs} (L : Lw P w K mg base c) (F : FunD K "are_rising" "are_rising" (defArgs s_are_rising) (defBody s_are_rising) (defScope s_are_rising) [] [] f fd)  : FnOk P w K mg base CX0 1 f fd P_are_rising (spD K (S_are_rising c)) := by
  refine fn_okP (k := 0) F sc_are_rising (ir_are_rising c) (len_are_rising c) (mt_are_rising c) (fun A hr => ?_) (use_are_rising c)
  simp only [ir_are_rising, Ss.ok, S.ok, E.ok, Es.ok, Oe.ok, Wk.ok, Es.len, Blt.nm, Blt.isRepr, Bool.false_eq_true, false_implies, and_true, true_and, Nat.zero_add, Nat.reduceAdd, List.length_cons, List.length_nil]
  repeat' (first | exact trivial | rfl | exact L.b_all | exact L.b_zip | exact L.cP | exact L.cw | apply And.intro)
abbrev s_is_whole : Stmt := topS 3
abbrev P_is_whole : List Str := ["thing", "low", "high"]
theorem mt_is_whole (c : Cs) : (ir_is_whole c).mt ⟨N_is_whole, defScope s_is_whole, fun _ => true⟩ (defBody s_is_whole) = true := by kernel_rfl
theorem sc_is_whole : FnScope N_is_whole P_is_whole (defScope s_is_whole) := C8.fnScope_by (by decide +kernel)
theorem len_is_whole (c : Cs) (ds : List D) (M : Mp) (Q : DQ) (h : S_is_whole c ds M Q) : ds.length = P_is_whole.length := by
  unfold S_is_whole at h
  repeat (first | (obtain ⟨rfl, _⟩ := h; rfl; done) | (obtain ⟨_, h⟩ := h))
theorem ok_is_whole {P : Program} {w : World} {K : PySem.W.Frag} {mg : Str → Option Value} {base : Heap} {f : Addr} {fd : FuncData} {c : Cs} (L : Lw P w K mg base c) (F : FunD K "is_whole" "is_whole" (defArgs s_is_whole) (defBody s_is_whole) (defScope s_is_whole) [] [] f fd)  : FnOk P w K mg base CX0 1 f fd P_is_whole (spD K (S_is_whole c)) := by
  refine fn_okP (k := 0) F sc_is_whole (ir_is_whole c) (len_is_whole c) (mt_is_whole c) (fun A hr => ?_) (use_is_whole c)
  simp only [ir_is_whole, Ss.ok, S.ok, E.ok, Es.ok, Oe.ok, Wk.ok, Es.len, Blt.nm, Blt.isRepr, Bool.false_eq_true, false_implies, and_true, true_and, Nat.zero_add, Nat.reduceAdd, List.length_cons, List.length_nil]
  repeat' (first | exact trivial | rfl | exact isaB_ok L.b_isinstance L.b_bool (by decide) | exact isaB_ok L.b_isinstance L.b_int (by decide) | exact L.cP | exact L.cw | apply And.intro)
abbrev s_are_whole : Stmt := topS 4
abbrev P_are_whole : List Str := ["thing", "low", "high"]
theorem mt_are_whole (c : Cs) : (ir_are_whole c).mt ⟨N_are_whole, defScope s_are_whole, fun _ => true⟩ (defBody s_are_whole) = true := by kernel_rfl
theorem sc_are_whole : FnScope N_are_whole P_are_whole (defScope s_are_whole) := C8.fnScope_by (by decide +kernel)
theorem len_are_whole (c : Cs) (ds : List D) (M : Mp) (Q : DQ) (h : S_are_whole c ds M Q) : ds.length = P_are_whole.length := by
  unfold S_are_whole at h
  repeat (first | (obtain ⟨rfl, _⟩ := h; rfl; done) | (obtain ⟨_, h⟩ := h))
theorem ok_are_whole {P : Program} {w : World} {K : PySem.W.Frag} {mg : Str → Option Value} {base : Heap} {f : Addr} {fd : FuncData} {c : Cs} (L : Lw P w K mg base c) (F : FunD K "are_whole" "are_whole" (defArgs s_are_whole) (defBody s_are_whole) (defScope s_are_whole) [] [] f fd) (h0 : Pr P w K mg base 1 "is_whole" 3 [] (S_is_whole c)) : FnOk P w K mg base CX0 2 f fd P_are_whole (spD K (S_are_whole c)) := by
  refine fn_okP (k := 1) F sc_are_whole (ir_are_whole c) (len_are_whole c) (mt_are_whole c) (fun A hr => ?_) (use_are_whole c)
  have qh0 := h0 A (hr.mono (by decide))
  simp only [ir_are_whole, Ss.ok, S.ok, E.ok, Es.ok, Oe.ok, Wk.ok, Es.len, Blt.nm, Blt.isRepr, Bool.false_eq_true, false_implies, and_true, true_and, Nat.zero_add, Nat.reduceAdd, List.length_cons, List.length_nil]
  repeat' (first | exact trivial | rfl | exact qh0 | exact L.b_all | exact isaB_ok L.b_isinstance L.b_tuple (by decide) | exact L.cP | exact L.cw | apply And.intro)
abbrev s_is_name : Stmt := topS 5
abbrev P_is_name : List Str := ["thing"]
theorem mt_is_name (c : Cs) : (ir_is_name c).mt ⟨N_is_name, defScope s_is_name, fun _ => true⟩ (defBody s_is_name) = true := by kernel_rfl
theorem sc_is_name : FnScope N_is_name P_is_name (defScope s_is_name) := C8.fnScope_by (by decide +kernel)
theorem len_is_name (c : Cs) (ds : List D) (M : Mp) (Q : DQ) (h : S_is_name c ds M Q) : ds.length = P_is_name.length := by
  unfold S_is_name at h
  repeat (first | (obtain ⟨rfl, _⟩ := h; rfl; done) | (obtain ⟨_, h⟩ := h))
theorem ok_is_name {P : Program} {w : World} {K : PySem.W.Frag} {mg : Str → Option Value} {base : Heap} {f : Addr} {fd : FuncData} {c : Cs} (L : Lw P w K mg base c) (F : FunD K "is_name" "is_name" (defArgs s_is_name) (defBody s_is_name) (defScope s_is_name) [] [] f fd)  : FnOk P w K mg base CX0 1 f fd P_is_name (spD K (S_is_name c)) := by
  refine fn_okP (k := 0) F sc_is_name (ir_is_name c) (len_is_name c) (mt_is_name c) (fun A hr => ?_) (use_is_name c)
  simp only [ir_is_name, Ss.ok, S.ok, E.ok, Es.ok, Oe.ok, Wk.ok, Es.len, Blt.nm, Blt.isRepr, Bool.false_eq_true, false_implies, and_true, true_and, Nat.zero_add, Nat.reduceAdd, List.length_cons, List.length_nil]
  repeat' (first | exact trivial | rfl | exact L.b_all | exact L.b_len | exact L.g_LETTERS | exact L.g_MOST_LETTERS | exact isaB_ok L.b_isinstance L.b_str (by decide) | exact L.cP | exact L.cw | apply And.intro)
abbrev s_are_ties : Stmt := topS 17
abbrev P_are_ties : List Str := ["thing", "knots", "size", "most"]
theorem mt_are_ties (c : Cs) : (ir_are_ties c).mt ⟨N_are_ties, defScope s_are_ties, fun _ => true⟩ (defBody s_are_ties) = true := by kernel_rfl
theorem sc_are_ties : FnScope N_are_ties P_are_ties (defScope s_are_ties) := C8.fnScope_by (by decide +kernel)
theorem len_are_ties (c : Cs) (ds : List D) (M : Mp) (Q : DQ) (h : S_are_ties c ds M Q) : ds.length = P_are_ties.length := by
  unfold S_are_ties at h
  repeat (first | (obtain ⟨rfl, _⟩ := h; rfl; done) | (obtain ⟨_, h⟩ := h))
theorem ok_are_ties {P : Program} {w : World} {K : PySem.W.Frag} {mg : Str → Option Value} {base : Heap} {f : Addr} {fd : FuncData} {c : Cs} (L : Lw P w K mg base c) (F : FunD K "are_ties" "are_ties" (defArgs s_are_ties) (defBody s_are_ties) (defScope s_are_ties) [] [] f fd) (h0 : Pr P w K mg base 1 "are_rising" 1 [] (S_are_rising c)) (h1 : Pr P w K mg base 2 "are_whole" 3 [] (S_are_whole c)) (h2 : Pr P w K mg base 1 "is_name" 1 [] (S_is_name c)) : FnOk P w K mg base CX0 3 f fd P_are_ties (spD K (S_are_ties c)) := by
  refine fn_okP (k := 2) F sc_are_ties (ir_are_ties c) (len_are_ties c) (mt_are_ties c) (fun A hr => ?_) (use_are_ties c)
  have qh0 := h0 A (hr.mono (by decide))
  have qh1 := h1 A (hr.mono (by decide))
  have qh2 := h2 A (hr.mono (by decide))
  simp only [ir_are_ties, Ss.ok, S.ok, E.ok, Es.ok, Oe.ok, Wk.ok, Es.len, Blt.nm, Blt.isRepr, Bool.false_eq_true, false_implies, and_true, true_and, Nat.zero_add, Nat.reduceAdd, List.length_cons, List.length_nil]
  repeat' (first | exact trivial | rfl | exact qh0 | exact qh1 | exact qh2 | exact L.b_len | exact isaB_ok L.b_isinstance L.b_tuple (by decide) | exact L.cP | exact L.cw | apply And.intro)
abbrev s_Net_init : Stmt := inClass (topS 18) 0
abbrev P_Net_init : List Str := ["self", "knots", "links", "labels"]
theorem mt_Net_init (c : Cs) : (ir_Net_init c).mt ⟨N_Net_init, defScope s_Net_init, fun _ => true⟩ (defBody s_Net_init) = true := by kernel_rfl
theorem sc_Net_init : FnScope N_Net_init P_Net_init (defScope s_Net_init) := C8.fnScope_by (by decide +kernel)
theorem len_Net_init (c : Cs) (ds : List D) (M : Mp) (Q : DQ) (h : S_Net_init c ds M Q) : ds.length = P_Net_init.length := by
  unfold S_Net_init at h
  repeat (first | (obtain ⟨rfl, _⟩ := h; rfl; done) | (obtain ⟨_, h⟩ := h))
theorem ok_Net_init {P : Program} {w : World} {K : PySem.W.Frag} {mg : Str → Option Value} {base : Heap} {f : Addr} {fd : FuncData} {c : Cs} (L : Lw P w K mg base c) (F : FunD K "__init__" "Net.__init__" (defArgs s_Net_init) (defBody s_Net_init) (defScope s_Net_init) [] [] f fd) (h0 : Pr P w K mg base 3 "are_ties" 4 [] (S_are_ties c)) (h1 : Pr P w K mg base 1 "is_whole" 3 [] (S_is_whole c)) : FnOk P w K mg base CX0 4 f fd P_Net_init (spD K (S_Net_init c)) := by
  refine fn_okP (k := 3) F sc_Net_init (ir_Net_init c) (len_Net_init c) (mt_Net_init c) (fun A hr => ?_) (use_Net_init c)
  have qh0 := h0 A (hr.mono (by decide))
  have qh1 := h1 A (hr.mono (by decide))
  simp only [ir_Net_init, Ss.ok, S.ok, E.ok, Es.ok, Oe.ok, Wk.ok, Es.len, Blt.nm, Blt.isRepr, Bool.false_eq_true, false_implies, and_true, true_and, Nat.zero_add, Nat.reduceAdd, List.length_cons, List.length_nil]
  repeat' (first | exact trivial | rfl | exact qh0 | exact qh1 | exact L.g_MOST_KNOTS | exact L.g_MOST_LABELS | exact L.g_MOST_LINKS | exact L.f_Net_knots | exact L.f_Net_labels | exact L.f_Net_links | exact L.cP | exact L.cw | apply And.intro)
abbrev s_l_net : Stmt := topS 28
abbrev P_l_net : List Str := ["_law_mesh_here"]
theorem mt_l_net (c : Cs) : (ir_l_net c).mt ⟨N_l_net, defScope s_l_net, fun _ => true⟩ (defBody s_l_net) = true := by kernel_rfl
theorem sc_l_net : FnScope N_l_net P_l_net (defScope s_l_net) := C8.fnScope_by (by decide +kernel)
theorem len_l_net (c : Cs) (ds : List D) (M : Mp) (Q : DQ) (h : S_l_net c ds M Q) : ds.length = P_l_net.length := by
  unfold S_l_net at h
  repeat (first | (obtain ⟨rfl, _⟩ := h; rfl; done) | (obtain ⟨_, h⟩ := h))
theorem ok_l_net {P : Program} {w : World} {K : PySem.W.Frag} {mg : Str → Option Value} {base : Heap} {f : Addr} {fd : FuncData} {c : Cs} (L : Lw P w K mg base c) (F : FunD K "_law_net" "_law_net" (defArgs s_l_net) (defBody s_l_net) (defScope s_l_net) [] [] f fd) (h0 : Pr P w K mg base 5 "Net" 1 ["links", "labels"] (S_Net_K1_links_labels c)) : FnOk P w K mg base CX0 6 f fd P_l_net (spD K (S_l_net c)) := by
  refine fn_okP (k := 5) F sc_l_net (ir_l_net c) (len_l_net c) (mt_l_net c) (fun A hr => ?_) (use_l_net c)
  have qh0 := h0 A (hr.mono (by decide))
  simp only [ir_l_net, Ss.ok, S.ok, E.ok, Es.ok, Oe.ok, Wk.ok, Es.len, Blt.nm, Blt.isRepr, Bool.false_eq_true, false_implies, and_true, true_and, Nat.zero_add, Nat.reduceAdd, List.length_cons, List.length_nil]
  repeat' (first | exact trivial | rfl | exact qh0 | exact L.cP | exact L.cw | apply And.intro)
abbrev s_l_pot : Stmt := topS 20
abbrev P_l_pot : List Str := ["_law_script", "_law_k"]
theorem mt_l_pot (c : Cs) : (ir_l_pot c).mt ⟨N_l_pot, defScope s_l_pot, fun _ => true⟩ (defBody s_l_pot) = true := by kernel_rfl
theorem sc_l_pot : FnScope N_l_pot P_l_pot (defScope s_l_pot) := C8.fnScope_by (by decide +kernel)
theorem len_l_pot (c : Cs) (ds : List D) (M : Mp) (Q : DQ) (h : S_l_pot c ds M Q) : ds.length = P_l_pot.length := by
  unfold S_l_pot at h
  repeat (first | (obtain ⟨rfl, _⟩ := h; rfl; done) | (obtain ⟨_, h⟩ := h))
theorem ok_l_pot {P : Program} {w : World} {K : PySem.W.Frag} {mg : Str → Option Value} {base : Heap} {f : Addr} {fd : FuncData} {c : Cs} (L : Lw P w K mg base c) (F : FunD K "_law_pot" "_law_pot" (defArgs s_l_pot) (defBody s_l_pot) (defScope s_l_pot) [] [] f fd)  : FnOk P w K mg base CX0 1 f fd P_l_pot (spD K (S_l_pot c)) := by
  refine fn_okG (k := 0) F sc_l_pot (ir_l_pot c) (len_l_pot c) (mt_l_pot c) (fun A hr => ?_) (useP_l_pot c)
  simp only [ir_l_pot, Ss.ok, S.ok, E.ok, Es.ok, Oe.ok, Wk.ok, Es.len, Blt.nm, Blt.isRepr, Bool.false_eq_true, false_implies, and_true, true_and, Nat.zero_add, Nat.reduceAdd, List.length_cons, List.length_nil]
  repeat' (first | exact trivial | rfl | exact L.b_abs | exact L.b_int | exact L.b_len | exact L.b_int | exact L.nd | exact L.cP | exact L.cw | apply And.intro)
abbrev s_Net_len : Stmt := inClass (topS 18) 1
abbrev P_Net_len : List Str := ["self"]
theorem mt_Net_len (c : Cs) : (ir_Net_len c).mt ⟨N_Net_len, defScope s_Net_len, fun _ => true⟩ (defBody s_Net_len) = true := by kernel_rfl
theorem sc_Net_len : FnScope N_Net_len P_Net_len (defScope s_Net_len) := C8.fnScope_by (by decide +kernel)
theorem len_Net_len (c : Cs) (ds : List D) (M : Mp) (Q : DQ) (h : S_Net_len_ c ds M Q) : ds.length = P_Net_len.length := by
  unfold S_Net_len_ at h
  repeat (first | (obtain ⟨rfl, _⟩ := h; rfl; done) | (obtain ⟨_, h⟩ := h))
theorem ok_Net_len {P : Program} {w : World} {K : PySem.W.Frag} {mg : Str → Option Value} {base : Heap} {f : Addr} {fd : FuncData} {c : Cs} (L : Lw P w K mg base c) (F : FunD K "__len__" "Net.__len__" (defArgs s_Net_len) (defBody s_Net_len) (defScope s_Net_len) [] [] f fd)  : FnOk P w K mg base CX0 1 f fd P_Net_len (spD K (S_Net_len_ c)) := by
  refine fn_okP (k := 0) F sc_Net_len (ir_Net_len c) (len_Net_len c) (mt_Net_len c) (fun A hr => ?_) (use_Net_len c)
  simp only [ir_Net_len, Ss.ok, S.ok, E.ok, Es.ok, Oe.ok, Wk.ok, Es.len, Blt.nm, Blt.isRepr, Bool.false_eq_true, false_implies, and_true, true_and, Nat.zero_add, Nat.reduceAdd, List.length_cons, List.length_nil]
  repeat' (first | exact trivial | rfl | exact L.b_len | exact L.f_Net_knots | exact L.cP | exact L.cw | apply And.intro)
abbrev s_is_leading : Stmt := topS 8
abbrev P_is_leading : List Str := ["net", "other", "thing"]
theorem mt_is_leading (c : Cs) : (ir_is_leading c).mt ⟨N_is_leading, defScope s_is_leading, fun _ => true⟩ (defBody s_is_leading) = true := by kernel_rfl
theorem sc_is_leading : FnScope N_is_leading P_is_leading (defScope s_is_leading) := C8.fnScope_by (by decide +kernel)
theorem len_is_leading (c : Cs) (ds : List D) (M : Mp) (Q : DQ) (h : S_is_leading c ds M Q) : ds.length = P_is_leading.length := by
  unfold S_is_leading at h
  repeat (first | (obtain ⟨rfl, _⟩ := h; rfl; done) | (obtain ⟨_, h⟩ := h))
theorem ok_is_leading {P : Program} {w : World} {K : PySem.W.Frag} {mg : Str → Option Value} {base : Heap} {f : Addr} {fd : FuncData} {c : Cs} (L : Lw P w K mg base c) (F : FunD K "is_leading" "is_leading" (defArgs s_is_leading) (defBody s_is_leading) (defScope s_is_leading) [] [] f fd) (h0 : Pr P w K mg base 2 "are_whole" 3 [] (S_are_whole c)) (h1 : PrO P w K mg base 2 c.Net "__len__" (S_Net_len_ c)) : FnOk P w K mg base CX0 3 f fd P_is_leading (spD K (S_is_leading c)) := by
  refine fn_okP (k := 2) F sc_is_leading (ir_is_leading c) (len_is_leading c) (mt_is_leading c) (fun A hr => ?_) (use_is_leading c)
  have qh0 := h0 A (hr.mono (by decide))
  have qh1 := h1 A (hr.mono (by decide))
  simp only [ir_is_leading, Ss.ok, S.ok, E.ok, Es.ok, Oe.ok, Wk.ok, Es.len, Blt.nm, Blt.isRepr, Bool.false_eq_true, false_implies, and_true, true_and, Nat.zero_add, Nat.reduceAdd, List.length_cons, List.length_nil]
  repeat' (first | exact trivial | rfl | exact qh0 | exact qh1 | exact L.b_all | exact L.b_len | exact L.b_len | exact L.f_Net_labels | exact L.f_Net_links | exact L.cP | exact L.cw | apply And.intro)
abbrev s_led_back : Stmt := topS 9
abbrev P_led_back : List Str := ["leading", "filling"]
theorem mt_led_back (c : Cs) : (ir_led_back c).mt ⟨N_led_back, defScope s_led_back, fun _ => true⟩ (defBody s_led_back) = true := by kernel_rfl
theorem sc_led_back : FnScope N_led_back P_led_back (defScope s_led_back) := C8.fnScope_by (by decide +kernel)
theorem len_led_back (c : Cs) (ds : List D) (M : Mp) (Q : DQ) (h : S_led_back c ds M Q) : ds.length = P_led_back.length := by
  unfold S_led_back at h
  repeat (first | (obtain ⟨rfl, _⟩ := h; rfl; done) | (obtain ⟨_, h⟩ := h))
theorem ok_led_back {P : Program} {w : World} {K : PySem.W.Frag} {mg : Str → Option Value} {base : Heap} {f : Addr} {fd : FuncData} {c : Cs} (L : Lw P w K mg base c) (F : FunD K "led_back" "led_back" (defArgs s_led_back) (defBody s_led_back) (defScope s_led_back) [] [] f fd)  : FnOk P w K mg base CX0 1 f fd P_led_back (spD K (S_led_back c)) := by
  refine fn_okP (k := 0) F sc_led_back (ir_led_back c) (len_led_back c) (mt_led_back c) (fun A hr => ?_) (use_led_back c)
  simp only [ir_led_back, Ss.ok, S.ok, E.ok, Es.ok, Oe.ok, Wk.ok, Es.len, Blt.nm, Blt.isRepr, Bool.false_eq_true, false_implies, and_true, true_and, Nat.zero_add, Nat.reduceAdd, List.length_cons, List.length_nil]
  repeat' (first | exact trivial | rfl | exact L.b_tuple | exact L.cP | exact L.cw | apply And.intro)
abbrev s_law : Stmt := topS 32
abbrev P_law : List Str := ["_law_script"]
theorem mt_law (c : Cs) : (ir_law c).mt ⟨N_law, defScope s_law, fun _ => true⟩ (defBody s_law) = true := by kernel_rfl
theorem sc_law : FnScope N_law P_law (defScope s_law) := C8.fnScope_by (by decide +kernel)
theorem len_law (c : Cs) (ds : List D) (M : Mp) (Q : DQ) (h : S_law c ds M Q) : ds.length = P_law.length := by
  unfold S_law at h
  repeat (first | (obtain ⟨rfl, _⟩ := h; rfl; done) | (obtain ⟨_, h⟩ := h))
theorem ok_law {P : Program} {w : World} {K : PySem.W.Frag} {mg : Str → Option Value} {base : Heap} {f : Addr} {fd : FuncData} {c : Cs} (L : Lw P w K mg base c) (F : FunD K "law" "law" (defArgs s_law) (defBody s_law) (defScope s_law) [] [] f fd) (h0 : Pr P w K mg base 2 "_law_bent" 3 [] (S_l_bent c)) (h1 : Pr P w K mg base 2 "_law_drawn_back" 3 [] (S_l_drawn_back c)) (h2 : Pr P w K mg base 1 "_law_due" 3 [] (S_l_due c)) (h3 : Pr P w K mg base 4 "_law_home" 2 [] (S_l_home c)) (h4 : Pr P w K mg base 3 "_law_mesh" 4 [] (S_l_mesh c)) (h5 : Pr P w K mg base 6 "_law_net" 1 [] (S_l_net c)) (h6 : Pr P w K mg base 1 "_law_pot" 2 [] (S_l_pot c)) (h7 : Pr P w K mg base 1 "_law_take" 2 [] (S_l_take c)) (h8 : Pr P w K mg base 3 "is_leading" 3 [] (S_is_leading c)) (h9 : Pr P w K mg base 1 "led_back" 2 [] (S_led_back c)) (h10 : Pr P w K mg base 3 "is_leading" 0 ["thing", "other", "net"] (S_is_leading_K0_thing_other_net c)) : FnG P w K mg base 7 f fd P_law (S_law c) := by
  refine fn_G (k := 6) F sc_law (ir_law c) (len_law c) (mt_law c) (fun A hr hg => ?_) (use_law c)
  have qh0 := h0 A (hr.mono (by decide))
  have qh1 := h1 A (hr.mono (by decide))
  have qh2 := h2 A (hr.mono (by decide))
  have qh3 := h3 A (hr.mono (by decide))
  have qh4 := h4 A (hr.mono (by decide))
  have qh5 := h5 A (hr.mono (by decide))
  have qh6 := h6 A (hr.mono (by decide))
  have qh7 := h7 A (hr.mono (by decide))
  have qh8 := h8 A (hr.mono (by decide))
  have qh9 := h9 A (hr.mono (by decide))
  have qh10 := h10 A (hr.mono (by decide))
  simp only [ir_law, Ss.ok, S.ok, E.ok, Es.ok, Oe.ok, Wk.ok, Es.len, Blt.nm, Blt.isRepr, Bool.false_eq_true, false_implies, and_true, true_and, Nat.zero_add, Nat.reduceAdd, List.length_cons, List.length_nil]
  repeat' (first | exact trivial | rfl | exact qh0 | exact qh1 | exact qh2 | exact qh3 | exact qh4 | exact qh5 | exact qh6 | exact qh7 | exact qh8 | exact qh9 | exact qh10 | exact L.b_int | exact L.b_len | exact L.b_max | exact L.b_min | exact L.b_repr | exact L.b_tuple | exact L.b_range | exact L.cP | exact L.cw | exact fun _ => hg | exact hg | apply And.intro)
def d_l_take : He.DefD := ⟨("_law_take", none), "_law_take", "_law_take", defArgs s_l_take, defBody s_l_take, defScope s_l_take, [], []⟩
def d_l_bent : He.DefD := ⟨("_law_bent", none), "_law_bent", "_law_bent", defArgs s_l_bent, defBody s_l_bent, defScope s_l_bent, [], []⟩
def d_l_drawn_back : He.DefD := ⟨("_law_drawn_back", none), "_law_drawn_back", "_law_drawn_back", defArgs s_l_drawn_back, defBody s_l_drawn_back, defScope s_l_drawn_back, [], []⟩
def d_l_due : He.DefD := ⟨("_law_due", none), "_law_due", "_law_due", defArgs s_l_due, defBody s_l_due, defScope s_l_due, [], []⟩
def d_l_of : He.DefD := ⟨("_law_of", none), "_law_of", "_law_of", defArgs s_l_of, defBody s_l_of, defScope s_l_of, [], []⟩
def d_l_names : He.DefD := ⟨("_law_names", none), "_law_names", "_law_names", defArgs s_l_names, defBody s_l_names, defScope s_l_names, [], []⟩
def d_l_all_pairs : He.DefD := ⟨("_law_all_pairs", none), "_law_all_pairs", "_law_all_pairs", defArgs s_l_all_pairs, defBody s_l_all_pairs, defScope s_l_all_pairs, [], []⟩
def d_l_pairs : He.DefD := ⟨("_law_pairs", none), "_law_pairs", "_law_pairs", defArgs s_l_pairs, defBody s_l_pairs, defScope s_l_pairs, [], []⟩
def d_l_home : He.DefD := ⟨("_law_home", none), "_law_home", "_law_home", defArgs s_l_home, defBody s_l_home, defScope s_l_home, [], []⟩
def d_l_mesh : He.DefD := ⟨("_law_mesh", none), "_law_mesh", "_law_mesh", defArgs s_l_mesh, defBody s_l_mesh, defScope s_l_mesh, [], []⟩
def d_are_rising : He.DefD := ⟨("are_rising", none), "are_rising", "are_rising", defArgs s_are_rising, defBody s_are_rising, defScope s_are_rising, [], []⟩
def d_is_whole : He.DefD := ⟨("is_whole", none), "is_whole", "is_whole", defArgs s_is_whole, defBody s_is_whole, defScope s_is_whole, [], []⟩
def d_are_whole : He.DefD := ⟨("are_whole", none), "are_whole", "are_whole", defArgs s_are_whole, defBody s_are_whole, defScope s_are_whole, [], []⟩
def d_is_name : He.DefD := ⟨("is_name", none), "is_name", "is_name", defArgs s_is_name, defBody s_is_name, defScope s_is_name, [], []⟩
def d_are_ties : He.DefD := ⟨("are_ties", none), "are_ties", "are_ties", defArgs s_are_ties, defBody s_are_ties, defScope s_are_ties, [], []⟩
def d_Net_init : He.DefD := ⟨("Net", some "__init__"), "__init__", "Net.__init__", defArgs s_Net_init, defBody s_Net_init, defScope s_Net_init, [], []⟩
def d_l_net : He.DefD := ⟨("_law_net", none), "_law_net", "_law_net", defArgs s_l_net, defBody s_l_net, defScope s_l_net, [], []⟩
def d_l_pot : He.DefD := ⟨("_law_pot", none), "_law_pot", "_law_pot", defArgs s_l_pot, defBody s_l_pot, defScope s_l_pot, [], []⟩
def d_Net_len : He.DefD := ⟨("Net", some "__len__"), "__len__", "Net.__len__", defArgs s_Net_len, defBody s_Net_len, defScope s_Net_len, [], []⟩
def d_is_leading : He.DefD := ⟨("is_leading", none), "is_leading", "is_leading", defArgs s_is_leading, defBody s_is_leading, defScope s_is_leading, [], []⟩
def d_led_back : He.DefD := ⟨("led_back", none), "led_back", "led_back", defArgs s_led_back, defBody s_led_back, defScope s_led_back, [], []⟩
def d_law : He.DefD := ⟨("law", none), "law", "law", defArgs s_law, defBody s_law, defScope s_law, [], []⟩
def fn : List He.DefD := [d_l_take, d_l_bent, d_l_drawn_back, d_l_due, d_l_of, d_l_names, d_l_all_pairs, d_l_pairs, d_l_home, d_l_mesh, d_are_rising, d_is_whole, d_are_whole, d_is_name, d_are_ties, d_Net_init, d_l_net, d_l_pot, d_Net_len, d_is_leading, d_led_back, d_law]
def fa0 : List He.Fa := [.glo "_law_take", .glo "_law_bent", .glo "_law_drawn_back", .glo "_law_due", .glo "_law_of", .glo "_law_names", .glo "_law_all_pairs", .glo "_law_pairs", .glo "_law_home", .glo "_law_mesh", .glo "are_rising", .glo "is_whole", .glo "are_whole", .glo "is_name", .glo "are_ties", .glo "_law_net", .glo "_law_pot", .glo "is_leading", .glo "led_back", .glo "law", .free "abs", .free "all", .free "bool", .free "int", .free "isinstance", .free "len", .free "list", .free "max", .free "min", .free "range"]
def fa1 : List He.Fa := [.free "repr", .free "sorted", .free "str", .free "tuple", .free "zip", .str "LETTERS" "abcdefghijklmnopqrstuvwxyz", .int "MOST_KNOTS" 60, .int "MOST_LABELS" 400, .int "MOST_LETTERS" 6, .int "MOST_LINKS" 700, .glo "Net", .cls "Net", .noat "Net" "knots", .noat "Net" "labels", .noat "Net" "links", .mkr "Net", .meth "Net" "__len__"]
def fa : List He.Fa := fa0 ++ fa1
def lo0 : List Str := ["LETTERS", "MOST_LETTERS", "is_whole", "are_whole", "is_name", "are_rising", "is_leading", "led_back", "HouseError", "NoNet", "MOST_KNOTS", "MOST_LINKS", "MOST_LABELS", "are_ties", "Net", "_law_pot", "_law_take", "_law_of", "_law_names", "_law_all_pairs", "_law_pairs", "_law_home", "_law_mesh", "_law_net", "_law_drawn_back", "_law_due", "_law_bent"]
def lo : List Str := lo0
def ex (K : PySem.W.Frag) : Bool := [noLst K, clsB K (He.ga K "Net")].all id
abbrev R : PySem.W.OpenRow := PySem.W.OpenLaw.row PySem.Challenge.rw_setshouse_k41_leadings_looked_at
abbrev hk : PySem.W.Hook := He.hookX 8 fa fn [] [] ex
def ob (s : PySem.W.SharedT) : He.AlX := He.obsX 8 fa fn [] [] ex (HandSHeadRun.getT s)
theorem ob_eq (s : PySem.W.SharedT) : ob s = hk.obs s.abs := He.obsX_eq (HandSHeadRun.getT_eq s)
theorem run (w : World) : HandSHeadRun.RunEq R (PySem.W.view R.prog [32]) hk ob 20000 lo w := by
  intro os
  kernel_rfl
theorem facts {P : Program} {w : World} {K : PySem.W.Frag} {h : Heap} {mg : Str → Option Value} {f : Addr} (X : K.In h) (G : h.Ns mainGlobals mg) (hfa : mg ("law" : Str) = some (.ref f)) (cc : He.SaysX fa fn [] [] ex w h K) :
    ∃ fd : FuncData, noLst K = true ∧ (∀ (s : Shared) (v : Value), BindsTo s fd ⟨[v], []⟩ [("_law_script", v)]) ∧ ∀ base : Heap, K.In base → base.Ns mainGlobals mg → base.NoDigits → FnG P w K mg base 7 f fd ["_law_script"] (S_law ⟨He.ga K "House", He.ga K "Net", P, w⟩) := by
  have sd := cc.t.d
  have exs : ∀ b ∈ [noLst K, clsB K (He.ga K "Net")], b = true := fun b hb => List.all_eq_true.mp cc.more b hb
  have x_0 : noLst K = true := exs _ (.head _)
  have x_1 : clsB K (He.ga K "Net") = true := exs _ (.tail _ (.head _))
  obtain ⟨fd_l_take, F_l_take⟩ := sd.def_ 0 (d := d_l_take) rfl
  obtain ⟨fd_l_bent, F_l_bent⟩ := sd.def_ 1 (d := d_l_bent) rfl
  obtain ⟨fd_l_drawn_back, F_l_drawn_back⟩ := sd.def_ 2 (d := d_l_drawn_back) rfl
  obtain ⟨fd_l_due, F_l_due⟩ := sd.def_ 3 (d := d_l_due) rfl
  obtain ⟨fd_l_of, F_l_of⟩ := sd.def_ 4 (d := d_l_of) rfl
  obtain ⟨fd_l_names, F_l_names⟩ := sd.def_ 5 (d := d_l_names) rfl
  obtain ⟨fd_l_all_pairs, F_l_all_pairs⟩ := sd.def_ 6 (d := d_l_all_pairs) rfl
  obtain ⟨fd_l_pairs, F_l_pairs⟩ := sd.def_ 7 (d := d_l_pairs) rfl
  obtain ⟨fd_l_home, F_l_home⟩ := sd.def_ 8 (d := d_l_home) rfl
  obtain ⟨fd_l_mesh, F_l_mesh⟩ := sd.def_ 9 (d := d_l_mesh) rfl
  obtain ⟨fd_are_rising, F_are_rising⟩ := sd.def_ 10 (d := d_are_rising) rfl
  obtain ⟨fd_is_whole, F_is_whole⟩ := sd.def_ 11 (d := d_is_whole) rfl
  obtain ⟨fd_are_whole, F_are_whole⟩ := sd.def_ 12 (d := d_are_whole) rfl
  obtain ⟨fd_is_name, F_is_name⟩ := sd.def_ 13 (d := d_is_name) rfl
  obtain ⟨fd_are_ties, F_are_ties⟩ := sd.def_ 14 (d := d_are_ties) rfl
  obtain ⟨fd_Net_init, F_Net_init⟩ := sd.def_ 15 (d := d_Net_init) rfl
  obtain ⟨fd_l_net, F_l_net⟩ := sd.def_ 16 (d := d_l_net) rfl
  obtain ⟨fd_l_pot, F_l_pot⟩ := sd.def_ 17 (d := d_l_pot) rfl
  obtain ⟨fd_Net_len, F_Net_len⟩ := sd.def_ 18 (d := d_Net_len) rfl
  obtain ⟨fd_is_leading, F_is_leading⟩ := sd.def_ 19 (d := d_is_leading) rfl
  obtain ⟨fd_led_back, F_led_back⟩ := sd.def_ 20 (d := d_led_back) rfl
  obtain ⟨fd_law, F_law⟩ := sd.def_ 21 (d := d_law) rfl
  have m_l_take := He.glo_ok X G (sd.fact 0 (f := .glo "_law_take") rfl)
  have m_l_bent := He.glo_ok X G (sd.fact 1 (f := .glo "_law_bent") rfl)
  have m_l_drawn_back := He.glo_ok X G (sd.fact 2 (f := .glo "_law_drawn_back") rfl)
  have m_l_due := He.glo_ok X G (sd.fact 3 (f := .glo "_law_due") rfl)
  have m_l_of := He.glo_ok X G (sd.fact 4 (f := .glo "_law_of") rfl)
  have m_l_names := He.glo_ok X G (sd.fact 5 (f := .glo "_law_names") rfl)
  have m_l_all_pairs := He.glo_ok X G (sd.fact 6 (f := .glo "_law_all_pairs") rfl)
  have m_l_pairs := He.glo_ok X G (sd.fact 7 (f := .glo "_law_pairs") rfl)
  have m_l_home := He.glo_ok X G (sd.fact 8 (f := .glo "_law_home") rfl)
  have m_l_mesh := He.glo_ok X G (sd.fact 9 (f := .glo "_law_mesh") rfl)
  have m_are_rising := He.glo_ok X G (sd.fact 10 (f := .glo "are_rising") rfl)
  have m_is_whole := He.glo_ok X G (sd.fact 11 (f := .glo "is_whole") rfl)
  have m_are_whole := He.glo_ok X G (sd.fact 12 (f := .glo "are_whole") rfl)
  have m_is_name := He.glo_ok X G (sd.fact 13 (f := .glo "is_name") rfl)
  have m_are_ties := He.glo_ok X G (sd.fact 14 (f := .glo "are_ties") rfl)
  have m_l_net := He.glo_ok X G (sd.fact 15 (f := .glo "_law_net") rfl)
  have m_l_pot := He.glo_ok X G (sd.fact 16 (f := .glo "_law_pot") rfl)
  have m_is_leading := He.glo_ok X G (sd.fact 17 (f := .glo "is_leading") rfl)
  have m_led_back := He.glo_ok X G (sd.fact 18 (f := .glo "led_back") rfl)
  have m_law := He.glo_ok X G (sd.fact 19 (f := .glo "law") rfl)
  have e := hfa.symm.trans m_law
  cases e
  have bA := FunD.bindsA (ps := P_law) F_law fun _ _ _ _ _ _ us hl => match us, hl with | [_], _ => rfl
  refine ⟨fd_law, x_0, fun s v => bA s [v] rfl, fun base _ _ hnd => ?_⟩
  let c : Cs := ⟨He.ga K "House", He.ga K "Net", P, w⟩
  have L : Lw P w K mg base c := {
    cP := rfl, cw := rfl, nd := hnd
    b_abs := He.free_ok X G (sd.fact 20 (f := .free "abs") rfl)
    b_all := He.free_ok X G (sd.fact 21 (f := .free "all") rfl)
    b_bool := He.free_ok X G (sd.fact 22 (f := .free "bool") rfl)
    b_int := He.free_ok X G (sd.fact 23 (f := .free "int") rfl)
    b_isinstance := He.free_ok X G (sd.fact 24 (f := .free "isinstance") rfl)
    b_len := He.free_ok X G (sd.fact 25 (f := .free "len") rfl)
    b_list := He.free_ok X G (sd.fact 26 (f := .free "list") rfl)
    b_max := He.free_ok X G (sd.fact 27 (f := .free "max") rfl)
    b_min := He.free_ok X G (sd.fact 28 (f := .free "min") rfl)
    b_range := He.free_ok X G (sd.fact 29 (f := .free "range") rfl)
    b_repr := He.free_ok X G (sd.fact 30 (f := .free "repr") rfl)
    b_sorted := He.free_ok X G (sd.fact 31 (f := .free "sorted") rfl)
    b_str := He.free_ok X G (sd.fact 32 (f := .free "str") rfl)
    b_tuple := He.free_ok X G (sd.fact 33 (f := .free "tuple") rfl)
    b_zip := He.free_ok X G (sd.fact 34 (f := .free "zip") rfl)
    g_LETTERS := gld_str (He.str_ok X G (sd.fact 35 (f := .str "LETTERS" "abcdefghijklmnopqrstuvwxyz") rfl))
    g_MOST_KNOTS := gld_int (He.int_ok X G (sd.fact 36 (f := .int "MOST_KNOTS" 60) rfl))
    g_MOST_LABELS := gld_int (He.int_ok X G (sd.fact 37 (f := .int "MOST_LABELS" 400) rfl))
    g_MOST_LETTERS := gld_int (He.int_ok X G (sd.fact 38 (f := .int "MOST_LETTERS" 6) rfl))
    g_MOST_LINKS := gld_int (He.int_ok X G (sd.fact 39 (f := .int "MOST_LINKS" 700) rfl))
    m_Net := He.glo_ok X G (sd.fact 40 (f := .glo "Net") rfl)
    c_Net := clsB_ok (He.cls_ok (sd.fact 41 (f := .cls "Net") rfl)) x_1
    f_Net_knots := ⟨He.cls_ok (sd.fact 41 (f := .cls "Net") rfl), He.noat_ok (sd.fact 42 (f := .noat "Net" "knots") rfl)⟩
    f_Net_labels := ⟨He.cls_ok (sd.fact 41 (f := .cls "Net") rfl), He.noat_ok (sd.fact 43 (f := .noat "Net" "labels") rfl)⟩
    f_Net_links := ⟨He.cls_ok (sd.fact 41 (f := .cls "Net") rfl), He.noat_ok (sd.fact 44 (f := .noat "Net" "links") rfl)⟩
  }
  have k_l_take := ok_l_take L F_l_take 
  have b_l_take : Binds K fd_l_take P_l_take [] := F_l_take.bindsN fun _ _ _ _ _ _ us hl => match us, hl with | [_, _], _ => rfl
  have p_l_take := fun n => Pr.fn k_l_take m_l_take F_l_take.kp b_l_take n
  have k_l_bent := ok_l_bent L F_l_bent (p_l_take 2)
  have b_l_bent : Binds K fd_l_bent P_l_bent [] := F_l_bent.bindsN fun _ _ _ _ _ _ us hl => match us, hl with | [_, _, _], _ => rfl
  have p_l_bent := fun n => Pr.fn k_l_bent m_l_bent F_l_bent.kp b_l_bent n
  have k_l_drawn_back := ok_l_drawn_back L F_l_drawn_back (p_l_take 2)
  have b_l_drawn_back : Binds K fd_l_drawn_back P_l_drawn_back [] := F_l_drawn_back.bindsN fun _ _ _ _ _ _ us hl => match us, hl with | [_, _, _], _ => rfl
  have p_l_drawn_back := fun n => Pr.fn k_l_drawn_back m_l_drawn_back F_l_drawn_back.kp b_l_drawn_back n
  have k_l_due := ok_l_due L F_l_due 
  have b_l_due : Binds K fd_l_due P_l_due [] := F_l_due.bindsN fun _ _ _ _ _ _ us hl => match us, hl with | [_, _, _], _ => rfl
  have p_l_due := fun n => Pr.fn k_l_due m_l_due F_l_due.kp b_l_due n
  have k_l_of := ok_l_of L F_l_of (p_l_take 2)
  have b_l_of : Binds K fd_l_of P_l_of [] := F_l_of.bindsN fun _ _ _ _ _ _ us hl => match us, hl with | [_, _], _ => rfl
  have p_l_of := fun n => Pr.fn k_l_of m_l_of F_l_of.kp b_l_of n
  have k_l_names := ok_l_names L F_l_names (p_l_of 2) (p_l_take 2)
  have b_l_names : Binds K fd_l_names P_l_names [] := F_l_names.bindsN fun _ _ _ _ _ _ us hl => match us, hl with | [_, _], _ => rfl
  have p_l_names := fun n => Pr.fn k_l_names m_l_names F_l_names.kp b_l_names n
  have k_l_all_pairs := ok_l_all_pairs L F_l_all_pairs 
  have b_l_all_pairs : Binds K fd_l_all_pairs P_l_all_pairs [] := F_l_all_pairs.bindsN fun _ _ _ _ _ _ us hl => match us, hl with | [_], _ => rfl
  have p_l_all_pairs := fun n => Pr.fn k_l_all_pairs m_l_all_pairs F_l_all_pairs.kp b_l_all_pairs n
  have k_l_pairs := ok_l_pairs L F_l_pairs (p_l_all_pairs 1) (p_l_take 2)
  have b_l_pairs : Binds K fd_l_pairs P_l_pairs [] := F_l_pairs.bindsN fun _ _ _ _ _ _ us hl => match us, hl with | [_, _], _ => rfl
  have p_l_pairs := fun n => Pr.fn k_l_pairs m_l_pairs F_l_pairs.kp b_l_pairs n
  have k_l_home := ok_l_home L F_l_home (p_l_names 2) (p_l_pairs 2) (p_l_take 2)
  have b_l_home : Binds K fd_l_home P_l_home [] := F_l_home.bindsN fun _ _ _ _ _ _ us hl => match us, hl with | [_, _], _ => rfl
  have p_l_home := fun n => Pr.fn k_l_home m_l_home F_l_home.kp b_l_home n
  have k_l_mesh := ok_l_mesh L F_l_mesh (p_l_of 2) (p_l_take 2)
  have b_l_mesh : Binds K fd_l_mesh P_l_mesh [] := F_l_mesh.bindsN fun _ _ _ _ _ _ us hl => match us, hl with | [_, _, _, _], _ => rfl
  have p_l_mesh := fun n => Pr.fn k_l_mesh m_l_mesh F_l_mesh.kp b_l_mesh n
  have k_are_rising := ok_are_rising L F_are_rising 
  have b_are_rising : Binds K fd_are_rising P_are_rising [] := F_are_rising.bindsN fun _ _ _ _ _ _ us hl => match us, hl with | [_], _ => rfl
  have p_are_rising := fun n => Pr.fn k_are_rising m_are_rising F_are_rising.kp b_are_rising n
  have k_is_whole := ok_is_whole L F_is_whole 
  have b_is_whole : Binds K fd_is_whole P_is_whole [] := F_is_whole.bindsN fun _ _ _ _ _ _ us hl => match us, hl with | [_, _, _], _ => rfl
  have p_is_whole := fun n => Pr.fn k_is_whole m_is_whole F_is_whole.kp b_is_whole n
  have k_are_whole := ok_are_whole L F_are_whole (p_is_whole 3)
  have b_are_whole : Binds K fd_are_whole P_are_whole [] := F_are_whole.bindsN fun _ _ _ _ _ _ us hl => match us, hl with | [_, _, _], _ => rfl
  have p_are_whole := fun n => Pr.fn k_are_whole m_are_whole F_are_whole.kp b_are_whole n
  have k_is_name := ok_is_name L F_is_name 
  have b_is_name : Binds K fd_is_name P_is_name [] := F_is_name.bindsN fun _ _ _ _ _ _ us hl => match us, hl with | [_], _ => rfl
  have p_is_name := fun n => Pr.fn k_is_name m_is_name F_is_name.kp b_is_name n
  have k_are_ties := ok_are_ties L F_are_ties (p_are_rising 1) (p_are_whole 3) (p_is_name 1)
  have b_are_ties : Binds K fd_are_ties P_are_ties [] := F_are_ties.bindsN fun _ _ _ _ _ _ us hl => match us, hl with | [_, _, _, _], _ => rfl
  have p_are_ties := fun n => Pr.fn k_are_ties m_are_ties F_are_ties.kp b_are_ties n
  have k_Net_init := ok_Net_init L F_Net_init (p_are_ties 4) (p_is_whole 3)
  have p_Net_K1_links_labels : Pr P w K mg base 5 "Net" 1 ["links", "labels"] (S_Net_K1_links_labels c) := Pr.make (He.mkr_ok (sd.fact 45 (f := .mkr "Net") rfl)) k_Net_init L.m_Net (kbn_of F_Net_init 2 ["links", "labels"] fun _ _ _ _ _ _ us ws h1 h2 => match us, h1, ws, h2 with | [_, _], _, [_, _], _ => rfl)
  have k_l_net := ok_l_net L F_l_net p_Net_K1_links_labels
  have b_l_net : Binds K fd_l_net P_l_net [] := F_l_net.bindsN fun _ _ _ _ _ _ us hl => match us, hl with | [_], _ => rfl
  have p_l_net := fun n => Pr.fn k_l_net m_l_net F_l_net.kp b_l_net n
  have k_l_pot := ok_l_pot L F_l_pot 
  have b_l_pot : Binds K fd_l_pot P_l_pot [] := F_l_pot.bindsN fun _ _ _ _ _ _ us hl => match us, hl with | [_, _], _ => rfl
  have p_l_pot := fun n => Pr.fn k_l_pot m_l_pot F_l_pot.kp b_l_pot n
  have k_Net_len := ok_Net_len L F_Net_len 
  have b_Net_len : Binds K fd_Net_len P_Net_len [] := F_Net_len.bindsN fun _ _ _ _ _ _ us hl => match us, hl with | [_], _ => rfl
  have o_Net_len := own_of k_Net_len b_Net_len (He.meth_ok (sd.fact 46 (f := .meth "Net" "__len__") rfl))
  have k_is_leading := ok_is_leading L F_is_leading (p_are_whole 3) o_Net_len
  have b_is_leading : Binds K fd_is_leading P_is_leading [] := F_is_leading.bindsN fun _ _ _ _ _ _ us hl => match us, hl with | [_, _, _], _ => rfl
  have p_is_leading := fun n => Pr.fn k_is_leading m_is_leading F_is_leading.kp b_is_leading n
  have p_is_leading_K0_thing_other_net : Pr P w K mg base 3 "is_leading" 0 ["thing", "other", "net"] (S_is_leading_K0_thing_other_net c) := Pr.fnP (ix := [2, 1, 0]) k_is_leading m_is_leading F_is_leading.kp (kbn_perm F_is_leading 0 ["thing", "other", "net"] [2, 1, 0] fun _ _ _ _ _ _ us ws h1 h2 => match us, h1, ws, h2 with | [], _, [_, _, _], _ => rfl)
  have k_led_back := ok_led_back L F_led_back 
  have b_led_back : Binds K fd_led_back P_led_back [] := F_led_back.bindsN fun _ _ _ _ _ _ us hl => match us, hl with | [_, _], _ => rfl
  have p_led_back := fun n => Pr.fn k_led_back m_led_back F_led_back.kp b_led_back n
  have k_law := ok_law L F_law (p_l_bent 3) (p_l_drawn_back 3) (p_l_due 3) (p_l_home 2) (p_l_mesh 4) (p_l_net 1) (p_l_pot 2) (p_l_take 2) (p_is_leading 3) (p_led_back 2) p_is_leading_K0_thing_other_net
  have b_law : Binds K fd_law P_law [] := F_law.bindsN fun _ _ _ _ _ _ us hl => match us, hl with | [_], _ => rfl
  have p_law := fun n => Pr.fnG k_law m_law F_law.kp b_law n
  exact k_law
end DL
open PySem PySem.W PySem.Calls PyProof.Rows
theorem PySem.Challenge.cw_setshouse_k41_leadings_looked_at_holds : PySem.Challenge.rw_setshouse_k41_leadings_looked_at.Holds := by
  w_on; o_law
  refine HandSHeadRun.head_any (r := OpenLaw.row PySem.Challenge.rw_setshouse_k41_leadings_looked_at) (q := view (OpenLaw.row PySem.Challenge.rw_setshouse_k41_leadings_looked_at).prog [32]) (H := DL.hk) (ob := DL.ob) (M := 20000) (loose := DL.lo) (d := HandSHeadRun.topDef (OpenLaw.row PySem.Challenge.rw_setshouse_k41_leadings_looked_at).prog 32) (kwd := []) DL.ob_eq
    (by kernel_rfl) (fun s => by kernel_rfl) DL.run (by kernel_rfl) (by kernel_rfl) (by kernel_rfl) (by rfl) (by first | assumption | decide +kernel) (by decide +kernel) ⟨rfl, rfl, rfl, rfl, rfl, by decide +kernel⟩ ?hw ?hc
  case hw => w_witness2
  case hc =>
    refine DL.walk_ofG (l := PySem.Challenge.rw_setshouse_k41_leadings_looked_at) (n := 63) (k := 7) (x := "_law_script") rfl (by decide) (by kernel_rfl) ⟨rfl, by decide, by decide⟩ ?F
    intro w mg fa h Y G hmg0
    obtain ⟨K, KX, c⟩ := Y
    have hmg : mg ("law" : PySem.Str) = some (.ref fa) := by
      have e : (HandSHeadRun.topDef (OpenLaw.row PySem.Challenge.rw_setshouse_k41_leadings_looked_at).prog 32).name = ("law" : PySem.Str) := by kernel_rfl
      rw [← e]
      exact hmg0
    obtain ⟨fd, hnl, hb, hF⟩ := DL.facts (P := (PySem.Challenge.rw_setshouse_k41_leadings_looked_at).prog) (w := w) KX G hmg c
    exact ⟨K, fd, _, KX, hnl, hb, fun a ns M hl hM => ⟨a, ns, rfl, hM, Nat.le_trans hl (by decide), fun _ _ => rfl⟩, hF⟩

