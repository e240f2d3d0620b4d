import PyProof.Rows.All
import Wide.All
import OpenK.AllK
import Wide.FinOn
import HandS.ForMost
import HandS.Exc
import HandS.ExcOwn
import HandS.Star
import HandS.HeadHook4
import HandS.Lambda
import HandS.List
import KE.SortKeyHeap
import KE.SortData
import PyProof.ReprRoads
import HandS.SortKw
import PyProof.CallFns
import HandS.Strs
import PyProof.Rows.SetFrom
import HandS.Style
import HandS.IsInst
import HandS.RaiseMore
import KE.KEqDict
import HandS.TupAny
import HandS.Codes
import PyProof.ListStr
import HandS.HeadEnd
import KE.GoesMore
import KE.GoesEnum
import HandS.NoneIn
import HandS.Small
import KE.KExcSuper
import HandS.Base
import HandS.Call
import HandS.Ends
import HandS.ExcField
import HandS.ExcIs
import HandS.Head1
import HandS.HeadHook1
import HandS.DictComp
import KE.KOpsOwn
import PyProof.InstNe
import PyProof.DictUpdate
import HandS.Zip
import PyProof.Rows.CountFlat
import HandS.More
import PyProof.SetRoads
import PyProof.StrLawsRepr
import HandS.Head0
import HandS.Head2
import PySem.Challenge.RW_copiesatjoins_k28_sharings_made
set_option Elab.async false
set_option linter.all false
set_option maxRecDepth 100000
set_option maxHeartbeats 0
namespace DL
open PySem PySem.Spec PyProof.Rows L2

/-- pure data; objects by the name of their class, gl: what a global name holds (a def, a class) -/
inductive D where
  | non | bl (b : Bool) | int (i : Int) | str (x : Str) | ty (n : String) | gl (x : Str)
  | lst (xs : List D) | tup (xs : List D) | dic (kvs : List (Key × D)) | dit (kvs : List (List Key × D)) | obj (c : Str) (fs : List (Str × D))

def keyD : Key → D
  | .inl i => .int i
  | .inr x => .str x

/-- what is read by its content -/
def soft : HO → Bool
  | .lst _ | .tup _ | .dK _ | .dT _ => true
  | _ => false
/-- what stands just so -/
def hard : HO → Bool
  | .ins _ _ _ | .own _ | .xd _ | .tup _ | .frz _ _ | .ext _ => true
  | _ => false
structure Le (F F' : Hp) : Prop where
  rd : ∀ a u, soft u = true → Rd F a u → Rd F' a u
  ex : ∀ a u, hard u = true → F a = some u → F' a = some u
theorem Le.refl {F : Hp} : Le F F := ⟨fun _ _ _ h => h, fun _ _ _ h => h⟩
theorem Le.trans {F G I : Hp} (a : Le F G) (b : Le G I) : Le F I := ⟨fun x u s h => b.rd x u s (a.rd x u s h), fun x u s h => b.ex x u s (a.ex x u s h)⟩

mutual
inductive R (K : PySem.W.Frag) (F : Hp) : V → D → Prop
  | non : R K F .non .non
  | bl (b : Bool) : R K F (.bl b) (.bl b)
  | int (i : Int) : R K F (.int i) (.int i)
  | str (x : Str) : R K F (.str x) (.str x)
  | ty (n : String) : R K F (.ty n) (.ty n)
  | gl (x : Str) : R K F (.ref (He.ga K x)) (.gl x)
  | lst {a : Addr} {vs : List V} {ds : List D} : Rd F a (.lst vs) → RL K F vs ds → R K F (.ref a) (.lst ds)
  | tup {a : Addr} {vs : List V} {ds : List D} : SqT K F a vs → RL K F vs ds → R K F (.ref a) (.tup ds)
  | dK {a : Addr} {kvs : List (Key × V)} {ds : List (Key × D)} : Rd F a (.dK kvs) → RK K F kvs ds → R K F (.ref a) (.dic ds)
  | dT {a : Addr} {kvs : List (List Key × V)} {ds : List (List Key × D)} : Rd F a (.dT kvs) → RT K F kvs ds → R K F (.ref a) (.dit ds)
  | obj {a dx : Addr} {c : Str} {vs : List (Str × V)} {fs : List (Str × D)} : F a = some (.ins (He.ga K c) dx vs) → F dx = some (.own a) → RF K F vs fs → R K F (.ref a) (.obj c fs)
inductive RL (K : PySem.W.Frag) (F : Hp) : List V → List D → Prop
  | nil : RL K F [] []
  | cons {v : V} {vs : List V} {d : D} {ds : List D} : R K F v d → RL K F vs ds → RL K F (v :: vs) (d :: ds)
inductive RK (K : PySem.W.Frag) (F : Hp) : List (Key × V) → List (Key × D) → Prop
  | nil : RK K F [] []
  | cons {k : Key} {v : V} {d : D} {kvs : List (Key × V)} {ds : List (Key × D)} : R K F v d → RK K F kvs ds → RK K F ((k, v) :: kvs) ((k, d) :: ds)
inductive RT (K : PySem.W.Frag) (F : Hp) : List (List Key × V) → List (List Key × D) → Prop
  | nil : RT K F [] []
  | cons {k : List Key} {v : V} {d : D} {kvs : List (List Key × V)} {ds : List (List Key × D)} : R K F v d → RT K F kvs ds → RT K F ((k, v) :: kvs) ((k, d) :: ds)
inductive RF (K : PySem.W.Frag) (F : Hp) : List (Str × V) → List (Str × D) → Prop
  | nil : RF K F [] []
  | cons {f : Str} {v : V} {d : D} {vs : List (Str × V)} {ds : List (Str × D)} : R K F v d → RF K F vs ds → RF K F ((f, v) :: vs) ((f, d) :: ds)
end

section
variable {K : PySem.W.Frag} {F F' : Hp}
theorem Le.sqL (l : Le F F') {a : Addr} {xs : List V} (h : SqL K F a xs) : SqL K F' a xs := h.imp (fun h => l.rd _ _ rfl h) id
theorem Le.sqT (l : Le F F') {a : Addr} {xs : List V} (h : SqT K F a xs) : SqT K F' a xs := h.imp (fun h => l.rd _ _ rfl h) id
mutual
theorem R.mono (l : Le F F') : ∀ {v : V} {d : D}, R K F v d → R K F' v d
  | _, _, .non => .non
  | _, _, .bl b => .bl b
  | _, _, .int i => .int i
  | _, _, .str x => .str x
  | _, _, .ty n => .ty n
  | _, _, .gl x => .gl x
  | _, _, .lst h r => .lst (l.rd _ _ rfl h) (RL.mono l r)
  | _, _, .tup h r => .tup (l.sqT h) (RL.mono l r)
  | _, _, .dK h r => .dK (l.rd _ _ rfl h) (RK.mono l r)
  | _, _, .dT h r => .dT (l.rd _ _ rfl h) (RT.mono l r)
  | _, _, .obj h h2 r => .obj (l.ex _ _ rfl h) (l.ex _ _ rfl h2) (RF.mono l r)
theorem RL.mono (l : Le F F') : ∀ {v : List V} {d : List D}, RL K F v d → RL K F' v d
  | _, _, .nil => .nil
  | _, _, .cons h r => .cons (R.mono l h) (RL.mono l r)
theorem RK.mono (l : Le F F') : ∀ {v : List (Key × V)} {d : List (Key × D)}, RK K F v d → RK K F' v d
  | _, _, .nil => .nil
  | _, _, .cons h r => .cons (R.mono l h) (RK.mono l r)
theorem RT.mono (l : Le F F') : ∀ {v : List (List Key × V)} {d : List (List Key × D)}, RT K F v d → RT K F' v d
  | _, _, .nil => .nil
  | _, _, .cons h r => .cons (R.mono l h) (RT.mono l r)
theorem RF.mono (l : Le F F') : ∀ {v : List (Str × V)} {d : List (Str × D)}, RF K F v d → RF K F' v d
  | _, _, .nil => .nil
  | _, _, .cons h r => .cons (R.mono l h) (RF.mono l r)
end
theorem RL.length : ∀ {v : List V} {d : List D}, RL K F v d → v.length = d.length
  | _, _, .nil => rfl
  | _, _, .cons _ r => congrArg (· + 1) (RL.length r)
theorem RL.get : ∀ {v : List V} {d : List D} {i : Nat} {x : D}, RL K F v d → d[i]? = some x → ∃ y, v[i]? = some y ∧ R K F y x
  | _, _, _, _, .nil, h => by simp at h
  | _, _, 0, _, .cons h _, e => by simp at e; subst e; exact ⟨_, rfl, h⟩
  | _, _, i + 1, _, .cons _ r, e => by
    obtain ⟨y, h1, h2⟩ := RL.get (i := i) r (by simpa using e)
    exact ⟨y, by simpa using h1, h2⟩
theorem RL.get' : ∀ {v : List V} {d : List D} {i : Nat} {y : V}, RL K F v d → v[i]? = some y → ∃ x, d[i]? = some x ∧ R K F y x
  | _, _, _, _, .nil, h => by simp at h
  | _, _, 0, _, .cons h _, e => by simp at e; subst e; exact ⟨_, rfl, h⟩
  | _, _, i + 1, _, .cons _ r, e => by
    obtain ⟨y, h1, h2⟩ := RL.get' (i := i) r (by simpa using e)
    exact ⟨y, by simpa using h1, h2⟩
theorem RL.append : ∀ {v w : List V} {d e : List D}, RL K F v d → RL K F w e → RL K F (v ++ w) (d ++ e)
  | _, _, _, _, .nil, h => h
  | _, _, _, _, .cons h r, s => .cons h (RL.append r s)
theorem RL.set {x : V} {y : D} (h : R K F x y) : ∀ {v : List V} {d : List D} (i : Nat), RL K F v d → RL K F (v.set i x) (d.set i y)
  | _, _, _, .nil => .nil
  | _, _, 0, .cons _ r => .cons h r
  | _, _, i + 1, .cons q r => .cons q (RL.set h i r)
theorem RL.take : ∀ {v : List V} {d : List D} (i : Nat), RL K F v d → RL K F (v.take i) (d.take i)
  | _, _, 0, _ => by simpa using RL.nil
  | _, _, _ + 1, .nil => by simpa using RL.nil
  | _, _, i + 1, .cons q r => .cons q (RL.take i r)
theorem RL.drop : ∀ {v : List V} {d : List D} (i : Nat), RL K F v d → RL K F (v.drop i) (d.drop i)
  | _, _, 0, r => r
  | _, _, _ + 1, .nil => by simpa using RL.nil
  | _, _, i + 1, .cons _ r => RL.drop i r
theorem RL.eraseIdx : ∀ {v : List V} {d : List D} (i : Nat), RL K F v d → RL K F (v.eraseIdx i) (d.eraseIdx i)
  | _, _, _, .nil => by simpa using RL.nil
  | _, _, 0, .cons _ r => r
  | _, _, i + 1, .cons q r => .cons q (RL.eraseIdx i r)
theorem RL.reverse {v : List V} {d : List D} (h : RL K F v d) : RL K F v.reverse d.reverse := by
  induction v generalizing d with
  | nil => cases h; exact .nil
  | cons x v ih => cases h with | cons q r => rw [List.reverse_cons, List.reverse_cons]; exact (ih r).append (.cons q .nil)
theorem RK.length : ∀ {v : List (Key × V)} {d : List (Key × D)}, RK K F v d → v.length = d.length
  | _, _, .nil => rfl
  | _, _, .cons _ r => congrArg (· + 1) (RK.length r)
theorem RK.keys : ∀ {v : List (Key × V)} {d : List (Key × D)}, RK K F v d → v.map (·.1) = d.map (·.1)
  | _, _, .nil => rfl
  | _, _, .cons _ r => by rw [List.map_cons, List.map_cons, RK.keys r]
theorem RF.lookup : ∀ {v : List (Str × V)} {d : List (Str × D)} {f : Str} {x : D}, RF K F v d → d.lookup f = some x → ∃ y, v.lookup f = some y ∧ R K F y x
  | _, _, _, _, .nil, h => by simp at h
  | _, _, f, x, .cons (f := g) h r, e => by
    rw [List.lookup_cons] at e ⊢
    cases q : f == g with
    | true => rw [q] at e; cases e; exact ⟨_, rfl, h⟩
    | false => rw [q] at e; exact RF.lookup r e
theorem RF.lookup_none : ∀ {v : List (Str × V)} {d : List (Str × D)} {f : Str}, RF K F v d → d.lookup f = none → v.lookup f = none
  | _, _, _, .nil, h => rfl
  | _, _, f, .cons (f := g) h r, e => by
    rw [List.lookup_cons] at e ⊢
    cases q : f == g with
    | true => rw [q] at e; cases e
    | false => rw [q] at e; exact RF.lookup_none r e
theorem RF.length : ∀ {v : List (Str × V)} {d : List (Str × D)}, RF K F v d → v.length = d.length
  | _, _, .nil => rfl
  | _, _, .cons _ r => congrArg (· + 1) (RF.length r)
end

/-- what a dict holds under a key; a key put -/
def lk (kvs : List (Key × D)) (k : Key) : Option D := (kvs.find? fun kv => decide (kv.1 = k)).map (·.2)
def pk (kvs : List (Key × D)) (k : Key) (d : D) : List (Key × D) := if (kvs.any fun kv => decide (kv.1 = k)) = true then kvs.map (fun kv => if kv.1 = k then (kv.1, d) else kv) else kvs ++ [(k, d)]
section
variable {K : PySem.W.Frag} {F : Hp}
theorem lk_cons {j : Key} {d : D} {r : List (Key × D)} {k : Key} : lk ((j, d) :: r) k = if j = k then some d else lk r k := by
  unfold lk
  rw [List.find?_cons]
  by_cases e : j = k
  · simp [e]
  · simp [e]
theorem valV_cons {j : Key} {v : V} {r : List (Key × V)} {k : Key} : valV ((j, v) :: r) k = if j = k then some v else valV r k := by
  by_cases e : j = k
  · rw [if_pos e]; exact valV_pos (p := (j, v)) e
  · rw [if_neg e]; exact valV_neg (p := (j, v)) e
theorem RK.lk (k : Key) : ∀ {vs : List (Key × V)} {ds : List (Key × D)}, RK K F vs ds → (DL.lk ds k = none ∧ valV vs k = none) ∨ ∃ d v, DL.lk ds k = some d ∧ valV vs k = some v ∧ R K F v d
  | _, _, .nil => .inl ⟨rfl, rfl⟩
  | _, _, .cons (k := j) (v := v) (d := d) h r => by
    rw [lk_cons, valV_cons]
    by_cases e : j = k
    · rw [if_pos e, if_pos e]; exact .inr ⟨d, v, rfl, rfl, h⟩
    · rw [if_neg e, if_neg e]; exact RK.lk k r
theorem RK.any (k : Key) {vs : List (Key × V)} {ds : List (Key × D)} (h : RK K F vs ds) : (vs.any fun kv => decide (kv.1 = k)) = ds.any fun kv => decide (kv.1 = k) := by
  have e := h.keys
  have e1 : (vs.any fun kv => decide (kv.1 = k)) = (vs.map (·.1)).any fun j => decide (j = k) := by rw [List.any_map]; rfl
  have e2 : (ds.any fun kv => decide (kv.1 = k)) = (ds.map (·.1)).any fun j => decide (j = k) := by rw [List.any_map]; rfl
  rw [e1, e2, e]
theorem RK.append : ∀ {v w : List (Key × V)} {d e : List (Key × D)}, RK K F v d → RK K F w e → RK K F (v ++ w) (d ++ e)
  | _, _, _, _, .nil, h => h
  | _, _, _, _, .cons h r, s => .cons h (RK.append r s)
theorem RK.put {k : Key} {v : V} {d : D} (q : R K F v d) {vs : List (Key × V)} {ds : List (Key × D)} (h : RK K F vs ds) : RK K F (putK vs k v) (pk ds k d) := by
  have mp : ∀ {vs : List (Key × V)} {ds : List (Key × D)}, RK K F vs ds → RK K F (vs.map fun kv => if kv.1 = k then (kv.1, v) else kv) (ds.map fun kv => if kv.1 = k then (kv.1, d) else kv) := by
    intro vs ds h
    induction vs generalizing ds with
    | nil => cases h; exact .nil
    | cons p vs ih =>
      cases h with
      | cons hr r =>
        rename_i j x y ds
        rw [List.map_cons, List.map_cons]
        by_cases e : j = k
        · rw [if_pos e, if_pos e]; exact .cons q (ih r)
        · rw [if_neg e, if_neg e]; exact .cons hr (ih r)
  unfold putK pk
  rw [h.any k]
  split
  · exact mp h
  · exact h.append (.cons q .nil)
theorem lk_pk {kvs : List (Key × D)} {k j : Key} {d : D} : lk (pk kvs k d) j = if j = k then some d else lk kvs j := by
  have mp : ∀ kvs : List (Key × D), lk (kvs.map fun kv => if kv.1 = k then (kv.1, d) else kv) j = (lk kvs j).map fun x => if j = k then d else x := by
    intro kvs
    induction kvs with
    | nil => rfl
    | cons p r ih =>
      obtain ⟨i, x⟩ := p
      rw [List.map_cons, lk_cons]
      by_cases e : i = k
      · rw [if_pos e, lk_cons, ih]
        by_cases e2 : i = j
        · have e3 : j = k := e2.symm.trans e
          rw [if_pos e2, if_pos e2]; simp [e3]
        · rw [if_neg e2, if_neg e2]
      · rw [if_neg e, lk_cons, ih]
        by_cases e2 : i = j
        · have e3 : ¬ j = k := fun z => e (e2.trans z)
          rw [if_pos e2, if_pos e2]; simp [e3]
        · rw [if_neg e2, if_neg e2]
  have ap : ∀ kvs : List (Key × D), (kvs.any fun kv => decide (kv.1 = k)) = false → lk (kvs ++ [(k, d)]) j = if j = k then some d else lk kvs j := by
    intro kvs
    induction kvs with
    | nil =>
      intro _
      show lk [(k, d)] j = _
      rw [lk_cons]
      by_cases e : k = j
      · rw [if_pos e, if_pos e.symm]
      · rw [if_neg e, if_neg (fun z => e z.symm)]
    | cons p r ih =>
      obtain ⟨i, x⟩ := p
      intro h
      rw [List.any_cons, Bool.or_eq_false_iff] at h
      have hi : ¬ i = k := of_decide_eq_false h.1
      rw [List.cons_append, lk_cons, lk_cons, ih h.2]
      by_cases e2 : i = j
      · have e3 : ¬ j = k := fun z => hi (e2.trans z)
        rw [if_pos e2, if_pos e2, if_neg e3]
      · rw [if_neg e2, if_neg e2]
  have hs : (kvs.any fun kv => decide (kv.1 = k)) = true → (lk kvs k).isSome = true := by
    intro h
    unfold lk
    obtain ⟨q, hq, e⟩ := List.any_eq_true.mp h
    cases z : kvs.find? fun kv => decide (kv.1 = k) with
    | some _ => rfl
    | none => exact absurd e (by simpa using List.find?_eq_none.mp z q hq)
  unfold pk
  split
  · rename_i h
    rw [mp]
    by_cases e : j = k
    · subst e
      cases z : lk kvs j with
      | some _ => simp
      | none => have := hs h; rw [z] at this; cases this
    · simp [e]
  · rename_i h
    exact ap kvs (Bool.eq_false_iff.mpr h)
end
/-- the addresses of the store's things; hid: lists that are being made, which nobody else sees -/
structure Al where
  as : List Addr
  hid : Addr → Option (List V)
/-- how the state goes on -/
def Go (F F' : Hp) (α α' : Al) : Prop := Le F F' ∧ α'.hid = α.hid ∧ ∃ β, α'.as = α.as ++ β
theorem Go.refl {F : Hp} {α : Al} : Go F F α α := ⟨.refl, rfl, [], by simp⟩
theorem Go.trans {F F' F'' : Hp} {α α' α'' : Al} (a : Go F F' α α') (b : Go F' F'' α' α'') : Go F F'' α α'' := by
  obtain ⟨l, e1, β, e2⟩ := a
  obtain ⟨l', e3, γ, e4⟩ := b
  exact ⟨l.trans l', e3.trans e1, β ++ γ, by rw [e4, e2, List.append_assoc]⟩
/-- since: a value handed in, and the state at that time -/
inductive RV where
  | dat (d : D) | loc (l : Nat) | exc (c : Str) (fs : List (Str × D)) | since (v : V) (F : Hp) (α : Al)
/-- tab: a table of code objects of the name q -/
inductive O where
  | lst (xs : List D) | dic (kvs : List (Key × D)) | dit (kvs : List (List Key × D)) | ins (c : Str) (fs : List (Str × D)) | frz (d : D) | tab (q : Str)
abbrev Rho := List (Option RV)
abbrev Mu := List O
/-- an exception: the name of its class, its attributes -/
structure Ex where
  c : Str
  fs : List (Str × D)

def O.toD : O → Option D
  | .lst xs => some (.lst xs)
  | .dic kvs => some (.dic kvs)
  | .dit kvs => some (.dit kvs)
  | .ins c fs => some (.obj c fs)
  | .frz d => some d
  | .tab _ => none
def vw (μ : Mu) : RV → Option D
  | .dat d => some d
  | .loc l => μ[l]?.bind O.toD
  | .exc _ _ => none
  | .since _ _ _ => none
def fz (μ : Mu) : RV → Option (D × Mu)
  | .dat d => some (d, μ)
  | .loc l => (μ[l]?.bind O.toD).map fun d => (d, μ.set l (.frz d))
  | .exc _ _ => none
  | .since _ _ _ => none

/-- the attributes of an exception -/
abbrev XdR (K : PySem.W.Frag) (F : Hp) (d : Option Addr) (fs : List (Str × D)) : Prop := (fs = [] ∧ d = none) ∨ ∃ a vs, d = some a ∧ F a = some (.xd vs) ∧ RF K F vs fs
def RvR (K : PySem.W.Frag) (pn : List (Addr × Obj)) (F : Hp) (α : Al) : RV → V → Prop
  | .dat d, v => R K F v d
  | .loc l, v => ∃ a, α.as[l]? = some a ∧ v = .ref a
  | .exc c fs, v => ∃ a oe d, v = .ref a ∧ (a, oe) ∈ pn ∧ (∃ us, oe.data = .fields us) ∧ Zc (.ref (He.ga K c)) d oe ∧ XdR K F d fs
  | .since v0 F0 α0, v => v = v0 ∧ Le F0 F ∧ ∃ β, α.as = α0.as ++ β
def ObR (K : PySem.W.Frag) (F H : Hp) (α : Al) (a : Addr) : O → Prop
  | .lst xs => F a = none ∧ ∃ vs, H a = some (.lst vs) ∧ RL K F vs xs
  | .dic kvs => F a = none ∧ ∃ vs, H a = some (.dK vs) ∧ RK K F vs kvs
  | .dit kvs => F a = none ∧ ∃ vs, H a = some (.dT vs) ∧ RT K F vs kvs
  | .ins c fs => F a = none ∧ ∃ dx vs, H a = some (.ins (He.ga K c) dx vs) ∧ H dx = some (.own a) ∧ F dx = none ∧ RF K F vs fs
  | .frz d => R K F (.ref a) d
  | .tab q => F a = none ∧ ∃ ps : Array Value, H a = some (.tbl ps) ∧ TriplesOk ps.toList ∧ ∀ (pos : Pos) (cv : Value), codeAmong pos ps.toList = some cv → ∃ c, cv = .ref c ∧ F c = some (LamX.CodeO c q)
structure Hold (K : PySem.W.Frag) (F H : Hp) (α : Al) (μ : Mu) : Prop where
  le : Le F H
  fr : ∀ a, H a = none → F a = none
  len : α.as.length = μ.length
  nd : α.as.Nodup
  al : ∀ a ∈ α.as, H a ≠ none
  ob : ∀ (l : Nat) (a : Addr) (o : O), α.as[l]? = some a → μ[l]? = some o → ObR K F H α a o
  hd : ∀ a vs, α.hid a = some vs → H a = some (.lst vs) ∧ F a = none ∧ a ∉ α.as
def Slots (K : PySem.W.Frag) (pn : List (Addr × Obj)) (F : Hp) (α : Al) (ρ : Rho) (σ : L2.St) : Prop :=
  ρ.length = σ.length ∧ ∀ (i : Nat) (rv : RV), ρ[i]? = some (some rv) → ∃ v, σ[i]? = some (some v) ∧ RvR K pn F α rv v
def ExR (K : PySem.W.Frag) (F : Hp) (ex : Ex) (cls : Value) (d : Option Addr) : Prop :=
  cls = .ref (He.ga K ex.c) ∧ XdR K F d ex.fs
section
variable {K : PySem.W.Frag} {pn : List (Addr × Obj)} {F F' H : Hp} {α α' : Al} {ρ : Rho} {σ : L2.St}
theorem Go.get (g : Go F F' α α') {l : Nat} {a : Addr} (h : α.as[l]? = some a) : α'.as[l]? = some a := by
  obtain ⟨_, _, β, e⟩ := g
  rw [e, List.getElem?_append_left (by rcases List.getElem?_eq_some_iff.mp h with ⟨q, _⟩; exact q)]
  exact h
theorem RvR.mono (g : Go F F' α α') : ∀ {rv : RV} {v : V}, RvR K pn F α rv v → RvR K pn F' α' rv v
  | .dat d, _, h => R.mono g.1 h
  | .loc l, _, h => by obtain ⟨a, h1, h2⟩ := h; exact ⟨a, g.get h1, h2⟩
  | .exc c fs, _, h => by
    obtain ⟨a, oe, d, h1, h2, h3, h4, h5⟩ := h
    exact ⟨a, oe, d, h1, h2, h3, h4, h5.imp id fun ⟨a, vs, h1, h2, h3⟩ => ⟨a, vs, h1, g.1.ex _ _ rfl h2, h3.mono g.1⟩⟩
  | .since v0 F0 α0, _, h => by
    obtain ⟨h1, h2, β, e1⟩ := h
    obtain ⟨g1, _, γ, e2⟩ := g
    exact ⟨h1, h2.trans g1, β ++ γ, by rw [e2, e1, List.append_assoc]⟩
theorem Slots.mono (g : Go F F' α α') (h : Slots K pn F α ρ σ) : Slots K pn F' α' ρ σ :=
  ⟨h.1, fun i rv e => let ⟨v, h1, h2⟩ := h.2 i rv e; ⟨v, h1, h2.mono g⟩⟩
theorem ExR.mono (l : Le F F') {ex : Ex} {cls : Value} {d : Option Addr} (h : ExR K F ex cls d) : ExR K F' ex cls d :=
  ⟨h.1, h.2.imp id fun ⟨a, vs, h1, h2, h3⟩ => ⟨a, vs, h1, l.ex _ _ rfl h2, h3.mono l⟩⟩
end
end DL

namespace DL
open PySem PySem.Spec PyProof.Rows L2
def sortS (ss : List Str) : List Str := ss.mergeSort fun a b => decide (a.cps.toList ≤ b.cps.toList)
section
variable {X : Cx}
theorem each_strs : ∀ {ss : List Str} {its : List Value}, Vals (ss.map V.str) its → PySem.W.EachIs (fun v (x : Str) => RelV (.str x) v) its ss
  | [], _, r => by cases r; first | exact .nil | trivial
  | x :: ss, _, r => by
    cases r with
    | cons h t => exact .cons h (each_strs t)
theorem vals_each : ∀ {ss : List Str} {its : List Value}, PySem.W.EachIs (fun v (x : Str) => RelV (.str x) v) its ss → Vals (ss.map V.str) its
  | [], _, r => by cases r; exact .nil
  | x :: ss, _, r => by
    cases r with
    | cons h t => exact .cons h (vals_each t)
theorem cr_sortS (hu : X.A.units + 64 < cLine) : CallR X (.builtin "sorted") (fun vs H Q => ∃ a ss, vs = [.ref a] ∧ SqL X.K H a (ss.map V.str) ∧ ∀ l, H l = none → Q (.ref l) (upd H l (.lst ((sortS ss).map V.str)))) := by
  intro pins s σ H vs us Q I r h
  obtain ⟨a, ss, rfl, hs, q⟩ := h
  obtain ⟨its, rv, hl, hz⟩ := I.list hs
  rw [Vals.ref1 r]
  have ev := each_strs rv
  refine PySem.W.sorted_data (enc := fun x : Str => PyData.str x) hl.isList ev (ev.mono fun v x h => ?_) (PySem.W.AllAlike.of fun _ _ => rfl) (PySem.W.Sortable.others fun _ => ⟨fun z => (nomatch z), fun _ z => (nomatch z)⟩) (by have := ev.length; have h2 := rv.length; rw [List.length_map] at h2 hz; exact hz) (fun b _ => ?_) fun out hlen ho => ?_
  · obtain ⟨t, rfl⟩ := h
    exact ⟨_, Reads.str x t⟩
  · show X.A.units + 2 + PyData.depth (.str b) < cLine
    have : PyData.depth (.str b) = 0 := by first | rfl | simp [PyData.depth]
    omega
  · obtain ⟨ep, he'⟩ := PyProof.Rows.sortedAll_at s.heap its out.toArray
    rw [PySem.W.dataLe_str (fun x : Str => x)] at ho
    have vo : Vals ((sortS ss).map V.str) out := vals_each ho
    have hl2 : ((sortS ss).map V.str).length ≤ sizeLine := by
      rw [vo.length, hlen]; rw [List.length_map] at hz; exact hz
    exact ⟨.ref _, upd H (s.heap.objs.size + 1) (.lst ((sortS ss).map V.str)), I.laid (t' := s.toks) (fun _ _ => PyProof.Rows.sortedAll_old) (Nat.le_succ _) ⟨hl2, out, ep, vo, he'⟩, rfl, q _ (I.hok.fresh (Nat.le_succ _))⟩
end
end DL

namespace DL
open PySem PySem.Spec PyProof.Rows L2
mutual
def pdD : D → Option PyData
  | .non => some .none
  | .bl b => some (.bool b)
  | .int i => some (.int i)
  | .str x => some (.str x)
  | .lst xs => (pdDs xs).map .list
  | .tup xs => (pdDs xs).map .tuple
  | _ => none
def pdDs : List D → Option (List PyData)
  | [] => some []
  | d :: ds => (pdD d).bind fun p => (pdDs ds).map (p :: ·)
end
mutual
theorem pd_dp {K : PySem.W.Frag} {H : Hp} : ∀ (d : D) {v : V} {p : PyData}, R K H v d → pdD d = some p → Dp K H v p
  | .non, _, _, r, e => by cases r; cases e; exact .non
  | .bl b, _, _, r, e => by cases r; cases e; exact .bl b
  | .int i, _, _, r, e => by cases r; cases e; exact .int i
  | .str x, _, _, r, e => by cases r; cases e; exact .str x
  | .lst xs, _, _, r, e => by
    simp only [pdD] at e
    obtain ⟨ps, e1, rfl⟩ := Option.map_eq_some_iff.mp e
    cases r with
    | lst h rl => exact .lst (.inl h) (pds_dp xs rl e1)
  | .tup xs, _, _, r, e => by
    simp only [pdD] at e
    obtain ⟨ps, e1, rfl⟩ := Option.map_eq_some_iff.mp e
    cases r with
    | tup h rl => exact .tup h (pds_dp xs rl e1)
  | .ty _, _, _, _, e => by simp only [pdD] at e; cases e
  | .gl _, _, _, _, e => by simp only [pdD] at e; cases e
  | .dic _, _, _, _, e => by simp only [pdD] at e; cases e
  | .dit _, _, _, _, e => by simp only [pdD] at e; cases e
  | .obj _ _, _, _, _, e => by simp only [pdD] at e; cases e
theorem pds_dp {K : PySem.W.Frag} {H : Hp} : ∀ (ds : List D) {vs : List V} {ps : List PyData}, RL K H vs ds → pdDs ds = some ps → DpAll K H vs ps
  | [], _, _, r, e => by cases r; simp only [pdDs] at e; cases e; exact .nil
  | d :: ds, _, _, r, e => by
    simp only [pdDs] at e
    obtain ⟨p, e1, e⟩ := Option.bind_eq_some_iff.mp e
    obtain ⟨ps, e2, rfl⟩ := Option.map_eq_some_iff.mp e
    cases r with
    | cons h rl => exact .cons (pd_dp d h e1) (pds_dp ds rl e2)
end
/-- the text that repr gives -/
def shD (d : D) : Option Str := (pdD d).bind fun p => if p.showable = true ∧ p.hasDict = false ∧ p.depth ≤ 16 ∧ p.shown.length ≤ 16777216 then some p.shown else none
/-- the text that str gives of a tuple -/
def keyT : D → Str
  | .tup xs => (shD (.tup xs)).getD ""
  | _ => ""
def isKeyT : D → Bool
  | .tup xs => (shD (.tup xs)).isSome
  | _ => false
def sortK (ds : List D) : List D := ds.mergeSort fun a b => decide ((keyT a).cps.toList ≤ (keyT b).cps.toList)
section
variable {X : Cx}
theorem zip_each {K : PySem.W.Frag} {H : Hp} : ∀ {ds : List D} {ys : List V} {its : List Value}, RL K H ys ds → Vals ys its → PySem.W.EachIs (fun v (b : V × D) => RelV b.1 v ∧ R K H b.1 b.2) its (ys.zip ds)
  | [], _, _, .nil, r => by cases r; exact .nil
  | d :: ds, _, _, .cons h rl, r => by
    cases r with
    | cons h1 r1 => exact .cons ⟨h1, h⟩ (zip_each rl r1)
theorem each_zip {K : PySem.W.Frag} {H : Hp} : ∀ {bs : List (V × D)} {its : List Value}, PySem.W.EachIs (fun v (b : V × D) => RelV b.1 v ∧ R K H b.1 b.2) its bs → Vals (bs.map (·.1)) its ∧ RL K H (bs.map (·.1)) (bs.map (·.2))
  | [], _, r => by cases r; exact ⟨.nil, .nil⟩
  | b :: bs, _, r => by
    cases r with
    | cons h r1 =>
      obtain ⟨h1, h2⟩ := each_zip r1
      exact ⟨.cons h.1 h1, .cons h.2 h2⟩
theorem zip_snd {K : PySem.W.Frag} {H : Hp} : ∀ {ds : List D} {ys : List V}, RL K H ys ds → (ys.zip ds).map (·.2) = ds ∧ (ys.zip ds).length = ds.length
  | [], _, .nil => ⟨rfl, rfl⟩
  | d :: ds, _, .cons h rl => ⟨congrArg (d :: ·) (zip_snd rl).1, congrArg (· + 1) (zip_snd rl).2⟩
theorem cr_sortK (hu : X.A.units + 64 < cLine) (hg : X.A.guards = some []) : CallRK X (.builtin "sorted") [Str.ofString "key"] (fun vs zs H Q => ∃ a ys ds F, vs = [.ref a] ∧ zs = [.ty "str"] ∧ SqL X.K H a ys ∧ Le F H ∧ RL X.K F ys ds ∧ ds.all isKeyT = true ∧
    ∀ l ys', H l = none → RL X.K F ys' (sortK ds) → Q (.ref l) (upd H l (.lst ys'))) := by
  intro pins s σ H vs zs us ws Q I r rz h
  obtain ⟨a, ys, ds, F, rfl, rfl, hs, le, rl, ak, q⟩ := h
  obtain rfl := Vals.ref1 r
  obtain ⟨w1, rfl, e1⟩ := vals1 rz
  obtain rfl : w1 = Value.type "str" := e1
  obtain ⟨its, rv, hl, hz⟩ := I.list hs
  have ev := zip_each rl rv
  obtain ⟨z1, z2⟩ := zip_snd rl
  have hds : ds.length ≤ sizeLine := by rw [← rl.length]; exact hz
  show wpAny _ _ (call (.builtin "sorted") [.ref a] [(Str.ofString "key", .type "str")]) _ _ _
  refine PySem.W.sorted_key_data (b := false) (f := .type "str") (fun b : V × D => PyData.str (keyT b.2)) hl.isList ev (PySem.W.AllAlike.of fun _ _ => rfl) (PySem.W.Sortable.others fun _ => ⟨fun z => (nomatch z), fun _ z => (nomatch z)⟩) (by rw [z2]; exact hds) (fun b _ => ?_)
    (PyProof.Rows.ksk_s1 _ _) (fun _ => PyProof.Rows.ksk_l1 _ _) (fun _ => by first | rfl | kernel_rfl) (fun v b hb hm h tk kp => ?_) fun out c h' tk kp hf ho hlen hE => ?_
  · have : PyData.depth (.str (keyT b.2)) = 0 := by first | rfl | simp [PyData.depth]
    show X.A.units + 2 + PyData.depth (.str (keyT b.2)) < cLine
    omega
  · obtain ⟨r1, r2⟩ := hb
    have hk : isKeyT b.2 = true := List.all_eq_true.mp ak _ (by rw [← z1]; exact List.mem_map_of_mem hm)
    obtain ⟨y, d⟩ := b
    cases d <;> first | (cases hk; done) | skip
    rename_i xs
    obtain ⟨t, et⟩ := Option.isSome_iff_exists.mp hk
    have ek : keyT (.tup xs) = t := by show (shD (.tup xs)).getD "" = t; rw [et]; rfl
    obtain ⟨p, e2, e3⟩ := Option.bind_eq_some_iff.mp et
    split at e3
    · rename_i c
      cases e3
      obtain ⟨as, rd⟩ := Dp.reads I p y v (pd_dp _ (r2.mono le) e2) r1
      cases r2 with
      | tup _ _ =>
        obtain rfl : v = Value.ref _ := r1
        refine str_of_reads (h₀ := s.heap) rd c.1 (fun z => by rw [c.2.1] at z; cases z) hg (by show X.A.units + 1 + 1 + (p.depth + 3) < cLine; have := c.2.2.1; omega) kp (fun h2 u tk2 kp2 => ?_) (by rw [sizeLine_eq]; exact c.2.2.2)
        refine ⟨h2, tk2, rfl, kp2, ?_⟩
        show Reads h2 _ (PyData.str (keyT (.tup xs))) []
        rw [ek]
        exact Reads.str _ _
    · cases e3
  · obtain ⟨vo, ro⟩ := each_zip hE
    rw [PySem.W.dataLe_str (fun b : V × D => keyT b.2)] at vo ro
    have es : (((ys.zip ds).mergeSort fun a b => decide ((keyT a.2).cps.toList ≤ (keyT b.2).cps.toList)).map (·.2)) = sortK ds := by
      refine (PySem.W.sort_maps (r := fun a b : V × D => decide ((keyT a.2).cps.toList ≤ (keyT b.2).cps.toList)) (s := fun a b : D => decide ((keyT a).cps.toList ≤ (keyT b).cps.toList)) (fun b : V × D => b.2) (l := ys.zip ds) fun _ _ _ _ => rfl).trans ?_
      rw [z1]
      rfl
    rw [es] at ro
    have hl2 : (((ys.zip ds).mergeSort fun a b => decide ((keyT a.2).cps.toList ≤ (keyT b.2).cps.toList)).map (·.1)).length ≤ sizeLine := by
      rw [vo.length, hlen, z2]; exact hds
    exact ⟨.ref _, upd H (s.heap.objs.size + 1) (.lst _), I.laid (t' := tk) kp (Nat.le_succ _) ⟨hl2, out, c, vo, ho⟩, rfl, q _ _ (I.hok.fresh (Nat.le_succ _)) ro⟩
/-- str of a tuple -/
theorem cr_strT (hu : X.A.units + 64 < cLine) (hg : X.A.guards = some []) : CallR X (.type "str") (fun vs H Q => ∃ v xs t, vs = [v] ∧ R X.K H v (.tup xs) ∧ shD (.tup xs) = some t ∧ Q (.str t) H) := by
  intro pins s σ H vs us Q I r h
  obtain ⟨v, xs, t, rfl, rr, et, q⟩ := h
  obtain ⟨u, rfl, r1⟩ := vals1 r
  obtain ⟨p, e2, e3⟩ := Option.bind_eq_some_iff.mp et
  split at e3
  · rename_i c
    cases e3
    obtain ⟨as, rd⟩ := Dp.reads I p v u (pd_dp _ rr e2) r1
    cases rr with
    | tup _ _ =>
      obtain rfl : u = Value.ref _ := r1
      exact str_of_reads (h₀ := s.heap) rd c.1 (fun z => by rw [c.2.1] at z; cases z) hg (by have := c.2.2.1; omega) (fun _ _ e => e) (fun h2 u2 tk2 kp2 => ⟨.str _, H, I.kept kp2, ⟨u2, rfl⟩, q⟩) (by rw [sizeLine_eq]; exact c.2.2.2)
  · cases e3
theorem cr_repr (hu : X.A.units + 64 < cLine) (hg : X.A.guards = some []) : CallR X (.builtin "repr") (fun vs H Q => ∃ v d t, vs = [v] ∧ R X.K H v d ∧ shD d = some t ∧ Q (.str t) H) := by
  intro pins s σ H vs us Q I r h
  obtain ⟨v, d, t, rfl, rr, et, q⟩ := h
  obtain ⟨u, rfl, r1⟩ := vals1 r
  obtain ⟨p, e2, e3⟩ := Option.bind_eq_some_iff.mp et
  split at e3
  · rename_i c
    cases e3
    obtain ⟨as, rd⟩ := Dp.reads I p v u (pd_dp _ rr e2) r1
    have main : ∀ {a : Addr}, u = .ref a → wpAny (model X.prog X.w) X.A (call (.builtin "repr") [u]) (EP X pins σ Q) X.xe s := fun {a} ea => by
      subst ea
      exact repr_of_reads' (h₀ := s.heap) rd c.1 (fun z => by rw [c.2.1] at z; cases z) hg (by have := c.2.2.1; omega) (fun _ _ e => e) (fun h2 u2 tk2 kp2 => ⟨.str _, H, I.kept kp2, ⟨u2, rfl⟩, q⟩) (by rw [sizeLine_eq]; exact c.2.2.2)
    cases rr with
    | lst _ _ => exact main r1
    | tup _ _ => exact main r1
    | non => cases e2; obtain rfl : u = Value.none := r1; exact P.repr_of_none ⟨.str _, H, I.tok _, ⟨_, rfl⟩, q⟩
    | bl b => cases e2; obtain rfl : u = Value.bool b := r1; exact P.repr_of_bool ⟨.str _, H, I.tok _, ⟨_, rfl⟩, q⟩
    | int i =>
      cases e2
      obtain ⟨t, rfl⟩ := (show ∃ t, u = Value.int i t from r1)
      exact P.repr_of_int (by have z := c.1; simpa [PyData.showable] using z) ⟨.str _, H, I.tok _, ⟨_, rfl⟩, q⟩
    | str x =>
      cases e2
      obtain ⟨t, rfl⟩ := (show ∃ t, u = Value.str x t from r1)
      exact P.repr_of_str ⟨.str _, H, I.tok _, ⟨_, rfl⟩, q⟩ (by rw [sizeLine_eq]; exact c.2.2.2)
    | _ => cases e2
  · cases e3
end
end DL

namespace DL
open PySem PySem.Spec PyProof.Rows L2

/-- the text of a set's entry -/
def txK (e : Int × Value) : Str := match e.2 with
  | .str k _ => k
  | _ => Str.empty
def TxE (w : World) (e : Int × Value) : Prop := ∃ x t, e.2 = Value.str x t ∧ e.1 = hashStr w x
/-- a set of texts, its members l -/
def SetT (w : World) (h : Heap) (a : Addr) (l : List Str) : Prop :=
  ∃ ob es ep tb, h.get? a = some ob ∧ ob.ExactSet ∧ ob.data = .set es ep tb ∧ (∀ e ∈ es.toList, TxE w e) ∧ (es.toList.map txK).Perm l ∧ l.Nodup ∧ es.size < scanBound ∧ tb.fits es.size = true ∧ Ris tb.place.toList ∧ (w.params.followText "set-order" = true ∨ tb.led = true)
def addT (l : List Str) (x : Str) : List Str := if x ∈ l then l else x :: l
section
variable {P : Program} {w : World} {h h' : Heap} {a : Addr} {l : List Str}
theorem SetT.keep (R : SetT w h a l) (k : ∀ o, h.get? a = some o → h'.get? a = some o) : SetT w h' a l := by
  obtain ⟨ob, es, ep, tb, ho, rest⟩ := R
  exact ⟨ob, es, ep, tb, k ob ho, rest⟩
theorem tx_elems {m : List (Int × Value)} (g : ∀ e ∈ m, TxE w e) : ElemsOf (PySem.strKind P w) m := by
  intro e he
  obtain ⟨x, t, h1, h2⟩ := g e he
  refine ⟨⟨x, ?_, h2⟩, ?_⟩
  · rw [h1]; exact strKind_is P w x t
  · rw [h1]; rfl
theorem tx_is {e : Int × Value} (g : TxE w e) (x : Str) : (PySem.strKind P w).is x e.2 = true ↔ txK e = x := by
  obtain ⟨y, t, h1, _⟩ := g
  unfold txK
  rw [h1]
  show Value.isStrOf x (.str y t) = true ↔ y = x
  simp [Value.isStrOf]
theorem tx_mem {m : List (Int × Value)} (g : ∀ e ∈ m, TxE w e) (x : Str) : x ∈ m.map txK ↔ ∃ e ∈ m, (PySem.strKind P w).is x e.2 = true := by
  simp only [List.mem_map]
  exact ⟨fun ⟨e, he, q⟩ => ⟨e, he, (tx_is (g e he) x).mpr q⟩, fun ⟨e, he, q⟩ => ⟨e, he, (tx_is (g e he) x).mp q⟩⟩
end
section
variable {P : Program} {w : World} {A : Around} {E : Value → Shared → Prop} {s : Shared} {a : Addr} {l : List Str}
theorem setT_tail {g : Bool → Sem Unit} (hg : ∀ (b : Bool) (s1 : Shared) (Q1 : Unit → Shared → Prop), Q1 () s1 → wpAny (model P w) A (g b) Q1 E s1)
    {ob : Obj} {es : Array (Int × Value)} {ep : Nat} {tb : SetTable} (ho : s.heap.get? a = some ob) (hx : ob.ExactSet) (hd : ob.data = .set es ep tb)
    {fs : Array (Int × Value)} {tc : SetTable} {m : List Str} (q1 : ∀ e ∈ fs.toList, TxE w e) (q2 : (fs.toList.map txK).Perm m) (q3 : m.Nodup)
    (q4 : fs.size < scanBound) (q5 : tc.fits fs.size = true) (q6 : Ris tc.place.toList) (q7 : w.params.followText "set-order" = true ∨ tc.led = true) {wasDummy : Bool} {R : Option Bool → Shared → Prop}
    (hR : ∀ hp, Heap.SameBut a s.heap hp → SetT w hp a m → R (some true) { s with heap := hp }) :
    wpAny (model P w) A (do
        storeSet a fs tc
        if (!wasDummy && tc.tooFull) = true then do
            g (relayAll tc fs (SetTable.grown fs.size)).2.2
            storeSet a (relayAll tc fs (SetTable.grown fs.size)).1 (relayAll tc fs (SetTable.grown fs.size)).2.1
            pure (some true)
          else pure (some true)) R E s := by
  refine wpAny_bind (wpAny_storeSet_of ho hd ?_ (fits_of_scanBound q4))
  have o1 := store_at (es' := fs) (t' := tc) ho hd
  have b1 := Heap.SameBut.update s.heap a (Obj.putSet fs tc)
  split
  · have p1 := relayAll_perm tc fs (SetTable.grown fs.size)
    have p2 := relayAll_fits tc fs (SetTable.grown fs.size)
    have p3 := relayAll_ris tc fs (SetTable.grown fs.size)
    have p4 := relayAll_led tc fs (SetTable.grown fs.size)
    revert p1 p2 p3 p4
    generalize relayAll tc fs (SetTable.grown fs.size) = z
    obtain ⟨gs, td, gave⟩ := z
    intro p1 p2 p3 p4
    dsimp only at p1 p2 p3 p4 ⊢
    have hz : gs.size = fs.size := by rw [← Array.length_toList, p1.length_eq, Array.length_toList]
    have hb : gs.size < scanBound := by rw [hz]; exact q4
    refine wpAny_bind (hg _ _ _ (wpAny_bind (wpAny_storeSet_of o1 rfl ?_ (fits_of_scanBound hb))))
    have o2 := store_at (es' := gs) (t' := td) o1 rfl
    refine wpAny_pure (hR _ (b1.trans (Heap.SameBut.update _ a _)) ⟨_, gs, _, td, o2, hx, rfl, fun e he => q1 e (p1.mem_iff.mp he), (p1.map txK).trans q2, q3, hb, p2, p3, ?_⟩)
    exact q7.imp id fun z => p4.trans z
  · exact wpAny_pure (hR _ b1 ⟨_, fs, _, tc, o1, hx, rfl, q1, q2, q3, q4, q5, q6, q7⟩)
theorem setT_hashed {x : Str} {tk : Tok} {Q : Bool → Shared → Prop} (R : SetT w s.heap a l) (room : l.length + 1 < scanBound)
    (hQ : ∀ hp b, Heap.SameBut a s.heap hp → SetT w hp a (addT l x) → Q b { s with heap := hp }) :
    wpAny (model P w) A (setAddHashed a (.str x tk) ((PySem.strKind P w).hash x)) Q E s := by
  obtain ⟨ob, es, ep, tb, ho, hx, hd, q1, q2, q3, q4, q5, q6, q7⟩ := R
  have hk : (PySem.strKind P w).is x (.str x tk) = true := strKind_is P w x tk
  have hc : (Value.str x tk).scannable = true := rfl
  have hel : ElemsOf (PySem.strKind P w) es.toList := tx_elems q1
  unfold setAddHashed setAddHashedIn
  refine wpAny_holding (wpAny_bind (wpAny_setState_of ho hd q5 ?_))
  dsimp only
  rw [byScan_of hc q4 hel, if_pos rfl]
  unfold setAddByScan
  refine wpAny_bind (wpAny_bind (wpAny_rule (wpAny_bind (wpAny_setScan_of hk ho hd q5 hel ?_))))
  cases fi : List.findIdx? (fun e => (PySem.strKind P w).is x e.2) es.toList with
  | some j =>
    dsimp only
    obtain ⟨hj, pj, _⟩ := List.findIdx?_eq_some_iff_getElem.mp fi
    have hm : x ∈ l := q2.mem_iff.mp ((tx_mem (P := P) q1 x).mpr ⟨es.toList[j], List.getElem_mem hj, pj⟩)
    refine wpAny_pure (wpAny_pure (hQ s.heap _ (Heap.SameBut.refl a s.heap) ?_))
    unfold addT
    rw [if_pos hm]
    exact ⟨ob, es, ep, tb, ho, hx, hd, q1, q2, q3, q4, q5, q6, q7⟩
  | none =>
    dsimp only
    have hm : x ∉ l := fun z => by
      obtain ⟨e, he, q⟩ := (tx_mem (P := P) q1 x).mp (q2.mem_iff.mpr z)
      have := List.findIdx?_eq_none_iff.mp fi e he
      rw [q] at this
      cases this
    have way : ∀ (b : Bool) {s1 : Shared} {Q1 : Unit → Shared → Prop}, Q1 () s1 → wpAny (model P w) A (match b with | true => rule "set.scan.the-table-gave-way" | false => pure ()) Q1 E s1 := by
      intro b s1 Q1 q
      cases b
      · exact wpAny_pure q
      · exact wpAny_rule q
    have p1 := layNew_perm tb es ((PySem.strKind P w).hash x) (.str x tk)
    have p2 := layNew_fits tb es ((PySem.strKind P w).hash x) (.str x tk)
    have p3 := layNew_ris tb es ((PySem.strKind P w).hash x) (.str x tk) q6
    have p4 := layNew_led tb es ((PySem.strKind P w).hash x) (.str x tk)
    revert p1 p2 p3 p4
    generalize layNew tb es ((PySem.strKind P w).hash x) (.str x tk) = z
    obtain ⟨fs, tc, wasDummy, gave⟩ := z
    intro p1 p2 p3 p4
    dsimp only at p1 p2 p3 p4 ⊢
    rw [Array.toList_push] at p1
    have pc := p1.trans (List.perm_append_singleton _ _)
    have r1 : ∀ e ∈ fs.toList, TxE w e := fun e he => by
      rcases List.mem_cons.mp (pc.mem_iff.mp he) with z | z
      · rw [z]; exact ⟨x, tk, rfl, rfl⟩
      · exact q1 e z
    have r2 : (fs.toList.map txK).Perm (addT l x) := by
      unfold addT
      rw [if_neg hm]
      exact (pc.map txK).trans (List.Perm.cons _ q2)
    have r3 : (addT l x).Nodup := by
      unfold addT
      rw [if_neg hm]
      exact List.nodup_cons.mpr ⟨hm, q3⟩
    have hz : fs.size = l.length + 1 := by
      have := q2.length_eq
      rw [List.length_map] at this
      rw [← Array.length_toList, pc.length_eq, List.length_cons, this]
    have r4 : fs.size < scanBound := by rw [hz]; exact room
    have r7 : w.params.followText "set-order" = true ∨ tc.led = true := q7.imp id fun z => p4.trans z
    refine wpAny_bind (way _ ?_)
    split
    · refine wpAny_bind ?_
      rw [hashByValue_scannable 8 hc]
      refine wpAny_pure (setT_tail ?_ ho hx hd r1 r2 r3 r4 ?_ ?_ ?_ ?_)
      · intro b s1 Q1 q; cases b; exact wpAny_pure q; exact wpAny_rule q
      · first | (split <;> first | exact p2 | exact SetTable.fits_plain_off p2) | exact p2
      · first | (split <;> exact p3) | exact p3
      · first | (split <;> exact r7) | exact r7
      · intro hp sb r; dsimp only; exact wpAny_pure (hQ hp _ sb r)
    · refine wpAny_bind (wpAny_pure ?_)
      simp only [↓reduceIte]
      refine setT_tail ?_ ho hx hd r1 r2 r3 r4 p2 p3 r7 ?_
      · intro b s1 Q1 q; cases b; exact wpAny_pure q; exact wpAny_rule q
      · intro hp sb r; dsimp only; exact wpAny_pure (hQ hp _ sb r)
end
end DL

namespace DL
open PySem PySem.Spec PyProof.Rows L2

def setTs (xs : List Str) : List Str := xs.foldl addT []
def frS (w : World) : Obj := { cls := .type "set", dict := none, data := .set #[] 0 (.fresh 0 0 (!w.params.followText "set-order")) }
theorem setTs_step {xs : List Str} {i : Nat} {x : Str} (h : xs[i]? = some x) : setTs (xs.take (i + 1)) = addT (setTs (xs.take i)) x := by
  unfold setTs
  rw [List.take_add_one, h, List.foldl_append]
  rfl
theorem foldT_len : ∀ (xs l : List Str), (xs.foldl addT l).length ≤ l.length + xs.length
  | [], l => Nat.le_refl _
  | x :: xs, l => by
    have := foldT_len xs (addT l x)
    have h2 : (addT l x).length ≤ l.length + 1 := by
      unfold addT
      split
      · exact Nat.le_succ _
      · exact Nat.le_refl _
    rw [List.foldl_cons, List.length_cons]
    omega
theorem setTs_len (xs : List Str) : (setTs xs).length ≤ xs.length := by
  have := foldT_len xs []
  simpa [setTs] using this
theorem addT_nd {l : List Str} {x : Str} (h : l.Nodup) : (addT l x).Nodup := by
  unfold addT
  split
  · exact h
  · rename_i n; exact List.nodup_cons.mpr ⟨n, h⟩
theorem foldT_nd : ∀ (xs l : List Str), l.Nodup → (xs.foldl addT l).Nodup
  | [], _, h => h
  | _ :: xs, _, h => foldT_nd xs _ (addT_nd h)
theorem setTs_nd (xs : List Str) : (setTs xs).Nodup := foldT_nd xs [] List.nodup_nil
theorem foldT_mem {z : Str} : ∀ (xs l : List Str), z ∈ xs.foldl addT l ↔ z ∈ l ∨ z ∈ xs
  | [], l => by simp
  | x :: xs, l => by
    rw [List.foldl_cons, foldT_mem xs]
    have : z ∈ addT l x ↔ z ∈ l ∨ z = x := by
      unfold addT
      split
      · rename_i h
        exact ⟨.inl, fun q => q.elim id fun e => e ▸ h⟩
      · rw [List.mem_cons]; exact Or.comm
    rw [this, List.mem_cons, or_assoc]
theorem setTs_mem {z : Str} {xs : List Str} : z ∈ setTs xs ↔ z ∈ xs := by
  unfold setTs
  rw [foldT_mem]
  simp
section
variable {P : Program} {w : World} {A : Around} {E : Value → Shared → Prop} {s : Shared}
theorem frS_set {h : Heap} {l : Addr} (hg : h.get? l = some (frS w)) : SetT w h l [] := by
  refine ⟨frS w, #[], 0, _, hg, ⟨rfl, rfl, rfl⟩, rfl, (fun e he => by simp at he), .refl _, List.nodup_nil, (by decide), (by rfl), List.Pairwise.nil, ?_⟩
  cases q : w.params.followText "set-order" with
  | true => exact .inl rfl
  | false => exact .inr rfl
theorem new_frS (v : Value) {Q1 : Value → Shared → Prop} (h : Q1 (.ref s.heap.objs.size) { s with heap := s.heap.push (frS w) }) :
    codeAny (model P w) A (.call (.builtin "set.__new__") ⟨[.type "set", v], []⟩) (wants Q1 E) s := by
  refine codeAny_of_tree ?_
  show wpAny _ A.in1 (checkBuiltinCall "set.__new__" ⟨[.type "set", v], []⟩ >>= fun _ => again (.builtin "set.__new__" ⟨[.type "set", v], []⟩)) _ _ s
  refine wpAny_bind (wpAny_of_eq (PySem.F.newCall_set_1 v) (wpAny_pure ⟨plainId_quiet PySem.F.plain_set_new _, codeAny_builtin PySem.F.entry_set_new ?_⟩))
  rw [Around.under_plainId PySem.F.plain_set_new _]
  unfold Builtin.«set.__new__» Builtin.Frozenset.newClass
  have self := sub_set_self
  obtain ⟨hp, g, d, tk, os⟩ := s
  dsimp only
  wp_walk
  refine wpAny_askSetting (wpAny_pure ?_)
  dsimp only
  simp only [newObj]
  exact wpAny_bind (wpAny_alloc (wpAny_pure (wpAny_pure h)))
theorem loopT {I : Addr} {fp wr : List Addr} {G : Array GenState → Array GenState → Prop} {xs : List Str} {Pv : Nat → Value → Prop} {St : Nat → Shared → Prop} {R : Result → Shared → Prop}
    (W : WalksS P w A.in1 I fp wr G xs.length Pv St) (S : Addr) (hS : S ∉ fp) (hv : ∀ i v, Pv i v → ∃ (x : Str) (t : Tok), xs[i]? = some x ∧ v = Value.str x t) (hb : xs.length + 1 < scanBound) :
    ∀ (k i : Nat) (s : Shared), xs.length - i = k → i ≤ xs.length → St i s → SetT w s.heap S (setTs (xs.take i)) →
      (∀ s2, Moved (S :: wr) G s s2 → SetT w s2.heap S (setTs xs) → R (.ok (.ret .none)) s2) →
      codeAny (model P w) A (.builtin "set.update.loop" ⟨[.ref S, .ref I], []⟩) R s := by
  have hw : S ∉ wr := fun z => hS (W.sub _ z)
  have wide : ∀ b ∈ wr, b ∈ S :: wr := fun b z => List.mem_cons_of_mem _ z
  intro k
  induction k with
  | zero =>
    intro i s hk hi st r hR
    obtain rfl : i = xs.length := by omega
    rw [List.take_length] at r
    refine codeAny_builtin PyProof.Rows.F.entry_set_update_loop ?_
    rw [Around.under_plainId PyProof.Rows.F.plain_set_update_loop _]
    show wpAny _ A.in1 (pyNext (.ref I) >>= _) _ _ s
    refine wpAny_bind (W.done s _ _ st fun s2 hm => ?_)
    show wpAny _ A.in1 (ret Value.none) _ _ s2
    exact wpAny_pure (hR s2 (hm.mono wide) (r.keep fun o e => hm.heap S o hw e))
  | succ k ih =>
    intro i s hk hi st r hR
    have hlt : i < xs.length := by omega
    refine codeAny_builtin PyProof.Rows.F.entry_set_update_loop ?_
    rw [Around.under_plainId PyProof.Rows.F.plain_set_update_loop _]
    show wpAny _ A.in1 (pyNext (.ref I) >>= _) _ _ s
    refine wpAny_bind (W.item i s _ _ hlt st fun v s2 hP st2 hm => ?_)
    obtain ⟨x, t, hx, rfl⟩ := hv i v hP
    have r2 := r.keep fun o e => hm.heap S o hw e
    show wpAny _ A.in1 (holding [Value.str x t] (setAdd S (.str x t)) >>= _) _ _ s2
    refine wpAny_bind (wpAny_holding ?_)
    unfold setAdd
    refine wpAny_holding (wpAny_bind ((PySem.strKind P w).pyHash (k := x) (strKind_is P w x t) ?_))
    have room : (setTs (xs.take i)).length + 1 < scanBound := by
      have h1 := setTs_len (xs.take i)
      rw [List.length_take] at h1
      omega
    refine setT_hashed (s := { s2 with toks := s2.toks + 1 }) r2 room fun hp b sb r3 => ?_
    rw [← setTs_step hx] at r3
    refine wpAny_pure ⟨plainId_quiet PyProof.Rows.F.plain_set_update_loop _, ih (i + 1) _ (by omega) hlt (W.frame _ s2 _ _ st2 (Nat.le_succ _) fun b hb o e => ?_) r3 fun s4 hm4 r4 => ?_⟩
    · rw [sb.2 b fun z : b = S => hS (z ▸ hb)]; exact e
    · refine hR s4 (Moved.trans W.gtrans ((hm.mono wide).then_heap (Nat.le_succ _) fun b o hb e => ?_) hm4) r4
      rw [sb.2 b fun z : b = S => hb (z ▸ List.mem_cons_self)]; exact e

set_option maxRecDepth 100000 in
set_option maxHeartbeats 3200000 in
theorem setT_list {l : Addr} {items : Array Value} {xs : List Str} {Q : Value → Shared → Prop}
    (hh : A.handled = none) (hl : s.heap.IsList l items) (hi : ∀ (i : Nat) (v : Value), items[i]? = some v → ∃ (x : Str) (t : Tok), xs[i]? = some x ∧ v = Value.str x t) (hz : items.size = xs.length) (hb : xs.length + 1 < scanBound)
    (h : ∀ (hp : Heap) (tk : Nat), SetT w hp s.heap.objs.size (setTs xs) → (∀ b o, b < s.heap.objs.size → s.heap.get? b = some o → hp.get? b = some o) → Q (.ref s.heap.objs.size) { s with heap := hp, toks := tk }) :
    wpAny (model P w) A (call (.type "set") [.ref l]) Q E s := by
  obtain ⟨c, tl, hmro⟩ := PySem.F.called_set.mro
  have k1 := PySem.F.called_set.made
  have k2 := PySem.F.called_set.sub
  refine wpAny_call (codeAny_of_tree ?_)
  show wpAny _ _ (callAny (.type "set") _) _ _ _
  refine wpAny_pure ⟨Code.quiet_builtin _ (by decide +kernel), codeAny_builtin PySem.F.entry_type_call ?_⟩
  rw [Around.under_plain (weight_type_call_type "set" [.ref l] []) rfl]
  have k3 := PySem.F.called_set.notType
  have k4 := PySem.F.called_set.canCreate
  have k5 := PySem.F.typeCall_set_1 (.ref l)
  repeat (any_goals (first | assumption | wp_step))
  refine codeAny_mono (new_frS (.ref l) (E := E) (Q1 := fun ob s1 => ob = .ref s.heap.objs.size ∧ s1 = { s with heap := s.heap.push (frS w) }) ⟨rfl, rfl⟩) fun r s1 hr => ?_
  cases r with
  | error e => exact hr
  | ok fl =>
    cases fl with
    | ret ob =>
      obtain ⟨rfl, rfl⟩ := hr
      have hS : (s.heap.push (frS w)).get? s.heap.objs.size = some (frS w) := Heap.get?_push_size _ rfl
      have hT : Shared.TypeIs { s with heap := s.heap.push (frS w) } (.ref s.heap.objs.size) "set" := ⟨_, hS, rfl⟩
      have k6 := PySem.F.called_set.init.lookup
      have k7 := PySem.F.called_set.init.bind (.ref s.heap.objs.size)
      repeat (any_goals (first | assumption | wp_step))
      refine codeAny_mono (codeAny_call_builtin (R := wants (fun r s2 => r = .none ∧ ∃ hp tk, s2 = { s with heap := hp, toks := tk } ∧ SetT w hp s.heap.objs.size (setTs xs) ∧
          (∀ b o, b < s.heap.objs.size → s.heap.get? b = some o → hp.get? b = some o)) E) PySem.F.called_set.init.plain PySem.F.entry_set_init (check_set_init_1 hT ?_)) fun r2 s2 hr2 => ?_
      · obtain ⟨ol, hol, hcl, nl, hdl⟩ := hl
        obtain ⟨oc, od, odt, osl⟩ := ol
        simp only at hcl hdl
        subst hcl
        subst hdl
        have hol2 : (s.heap.push (frS w)).get? l = some { cls := .type "list", dict := od, data := .seq items nl, slots := osl } := Heap.get?_push_of_some _ hol
        have k8 : isSubtype (.type "list") (.type "set") = pure false := by rw [isSubtype_type]; kernel_rfl
        have k9 : isSubtype (.type "list") (.type "frozenset") = pure false := by rw [isSubtype_type]; kernel_rfl
        have k10 : (Value.type "list" == Value.type "dict") = false := by decide
        have hl2 : (s.heap.push (frS w)).IsList l items := ⟨_, hol2, rfl, nl, rfl⟩
        unfold Builtin.«set.__init__» noKeywords Builtin.Frozenset.updateFrom
        generalize hPI : pyIter = PI
        wp_walk
        subst hPI
        refine wpAny_pyIter_list hl2 ?_
        refine wpAny_bind (wpAny_runValue ?_)
        have hlt : l < s.heap.objs.size := Heap.lt_size hol
        have h3 : A.in1.in1.in1.handled = none := by simp [hh]
        have hne : l ≠ (s.heap.push (frS w)).objs.size := by
          rw [Heap.size_push]
          exact Nat.ne_of_lt (Nat.lt_succ_of_lt hlt)
        have hSf : s.heap.objs.size ∉ [(s.heap.push (frS w)).objs.size, l] := by
          rw [Heap.size_push]
          intro z
          rcases List.mem_cons.mp z with z | z
          · exact absurd z (Nat.ne_of_lt (Nat.lt_succ_self _))
          · exact absurd (List.mem_singleton.mp z) (Nat.ne_of_gt hlt)
        have W := (Walks.list (prog := P) (w := w) h3 (s.heap.push (frS w)).objs.size l hne items).toS
        rw [hz] at W
        refine loopT W s.heap.objs.size hSf hi hb (xs.length - 0) 0 _ rfl (Nat.zero_le _)
          ⟨⟨_, Heap.get?_push_size _ rfl, rfl, rfl⟩, (hl2.push _)⟩ (frS_set (Heap.get?_push_of_some _ hS)) ?_
        intro s4 hm r4
        obtain ⟨hp, g4, d4, tk4, os4⟩ := s4
        have eg : g4 = s.gens := hm.gens
        have ed : d4 = s.drawn := hm.drawn
        have eo : os4 = s.os := hm.os
        subst eg
        subst ed
        subst eo
        show wpAny _ _ _ _ _ _
        refine wpAny_pure ?_
        show wpAny _ _ (ret Value.none) _ _ _
        refine wpAny_pure ⟨rfl, hp, tk4, rfl, r4, fun b o hb e => hm.heap b o ?_ (Heap.get?_push_of_some _ (Heap.get?_push_of_some _ e))⟩
        rw [Heap.size_push]
        intro z
        rcases List.mem_cons.mp z with z | z
        · exact absurd z (Nat.ne_of_lt hb)
        · exact absurd (List.mem_singleton.mp z) (Nat.ne_of_lt (Nat.lt_succ_of_lt hb))
      · cases r2 with
        | error e => exact hr2
        | ok f2 =>
          cases f2 with
          | ret r =>
            obtain ⟨rfl, hp, tk, rfl, r4, hk⟩ := hr2
            repeat (any_goals (first | assumption | wp_step))
            exact h _ _ r4 hk
          | _ => exact hr2.elim
    | _ => exact hr.elim

set_option maxRecDepth 100000 in
set_option maxHeartbeats 3200000 in
theorem setT_tuple {l : Addr} {items : Array Value} {xs : List Str} {Q : Value → Shared → Prop}
    (hh : A.handled = none) (hl : s.heap.IsTuple l items) (hi : ∀ (i : Nat) (v : Value), items[i]? = some v → ∃ (x : Str) (t : Tok), xs[i]? = some x ∧ v = Value.str x t) (hz : items.size = xs.length) (hb : xs.length + 1 < scanBound)
    (h : ∀ (hp : Heap) (tk : Nat), SetT w hp s.heap.objs.size (setTs xs) → (∀ b o, b < s.heap.objs.size → s.heap.get? b = some o → hp.get? b = some o) → Q (.ref s.heap.objs.size) { s with heap := hp, toks := tk }) :
    wpAny (model P w) A (call (.type "set") [.ref l]) Q E s := by
  obtain ⟨c, tl, hmro⟩ := PySem.F.called_set.mro
  have k1 := PySem.F.called_set.made
  have k2 := PySem.F.called_set.sub
  refine wpAny_call (codeAny_of_tree ?_)
  show wpAny _ _ (callAny (.type "set") _) _ _ _
  refine wpAny_pure ⟨Code.quiet_builtin _ (by decide +kernel), codeAny_builtin PySem.F.entry_type_call ?_⟩
  rw [Around.under_plain (weight_type_call_type "set" [.ref l] []) rfl]
  have k3 := PySem.F.called_set.notType
  have k4 := PySem.F.called_set.canCreate
  have k5 := PySem.F.typeCall_set_1 (.ref l)
  repeat (any_goals (first | assumption | wp_step))
  refine codeAny_mono (new_frS (.ref l) (E := E) (Q1 := fun ob s1 => ob = .ref s.heap.objs.size ∧ s1 = { s with heap := s.heap.push (frS w) }) ⟨rfl, rfl⟩) fun r s1 hr => ?_
  cases r with
  | error e => exact hr
  | ok fl =>
    cases fl with
    | ret ob =>
      obtain ⟨rfl, rfl⟩ := hr
      have hS : (s.heap.push (frS w)).get? s.heap.objs.size = some (frS w) := Heap.get?_push_size _ rfl
      have hT : Shared.TypeIs { s with heap := s.heap.push (frS w) } (.ref s.heap.objs.size) "set" := ⟨_, hS, rfl⟩
      have k6 := PySem.F.called_set.init.lookup
      have k7 := PySem.F.called_set.init.bind (.ref s.heap.objs.size)
      repeat (any_goals (first | assumption | wp_step))
      refine codeAny_mono (codeAny_call_builtin (R := wants (fun r s2 => r = .none ∧ ∃ hp tk, s2 = { s with heap := hp, toks := tk } ∧ SetT w hp s.heap.objs.size (setTs xs) ∧
          (∀ b o, b < s.heap.objs.size → s.heap.get? b = some o → hp.get? b = some o)) E) PySem.F.called_set.init.plain PySem.F.entry_set_init (check_set_init_1 hT ?_)) fun r2 s2 hr2 => ?_
      · obtain ⟨ol, hol, hcl, nl, hdl⟩ := hl
        obtain ⟨oc, od, odt, osl⟩ := ol
        simp only at hcl hdl
        subst hcl
        subst hdl
        have hol2 : (s.heap.push (frS w)).get? l = some { cls := .type "tuple", dict := od, data := .seq items nl, slots := osl } := Heap.get?_push_of_some _ hol
        have k8 : isSubtype (.type "tuple") (.type "set") = pure false := by rw [isSubtype_type]; kernel_rfl
        have k9 : isSubtype (.type "tuple") (.type "frozenset") = pure false := by rw [isSubtype_type]; kernel_rfl
        have k10 : (Value.type "tuple" == Value.type "dict") = false := by decide
        have hl2 : (s.heap.push (frS w)).IsTuple l items := ⟨_, hol2, rfl, nl, rfl⟩
        unfold Builtin.«set.__init__» noKeywords Builtin.Frozenset.updateFrom
        generalize hPI : pyIter = PI
        wp_walk
        subst hPI
        refine wpAny_pyIter_tuple hl2 ?_
        refine wpAny_bind (wpAny_runValue ?_)
        have hlt : l < s.heap.objs.size := Heap.lt_size hol
        have h3 : A.in1.in1.in1.handled = none := by simp [hh]
        have hne : l ≠ (s.heap.push (frS w)).objs.size := by
          rw [Heap.size_push]
          exact Nat.ne_of_lt (Nat.lt_succ_of_lt hlt)
        have hSf : s.heap.objs.size ∉ [(s.heap.push (frS w)).objs.size, l] := by
          rw [Heap.size_push]
          intro z
          rcases List.mem_cons.mp z with z | z
          · exact absurd z (Nat.ne_of_lt (Nat.lt_succ_self _))
          · exact absurd (List.mem_singleton.mp z) (Nat.ne_of_gt hlt)
        have W := (Walks.tuple (prog := P) (w := w) h3 (s.heap.push (frS w)).objs.size l hne items).toS
        rw [hz] at W
        refine loopT W s.heap.objs.size hSf hi hb (xs.length - 0) 0 _ rfl (Nat.zero_le _)
          ⟨⟨_, Heap.get?_push_size _ rfl, rfl, rfl⟩, (hl2.push _)⟩ (frS_set (Heap.get?_push_of_some _ hS)) ?_
        intro s4 hm r4
        obtain ⟨hp, g4, d4, tk4, os4⟩ := s4
        have eg : g4 = s.gens := hm.gens
        have ed : d4 = s.drawn := hm.drawn
        have eo : os4 = s.os := hm.os
        subst eg
        subst ed
        subst eo
        show wpAny _ _ _ _ _ _
        refine wpAny_pure ?_
        show wpAny _ _ (ret Value.none) _ _ _
        refine wpAny_pure ⟨rfl, hp, tk4, rfl, r4, fun b o hb e => hm.heap b o ?_ (Heap.get?_push_of_some _ (Heap.get?_push_of_some _ e))⟩
        rw [Heap.size_push]
        intro z
        rcases List.mem_cons.mp z with z | z
        · exact absurd z (Nat.ne_of_lt hb)
        · exact absurd (List.mem_singleton.mp z) (Nat.ne_of_lt (Nat.lt_succ_of_lt hb))
      · cases r2 with
        | error e => exact hr2
        | ok f2 =>
          cases f2 with
          | ret r =>
            obtain ⟨rfl, hp, tk, rfl, r4, hk⟩ := hr2
            repeat (any_goals (first | assumption | wp_step))
            exact h _ _ r4 hk
          | _ => exact hr2.elim
    | _ => exact hr.elim
end
end DL

namespace DL
open PySem PySem.Spec PyProof.Rows L2

theorem le_str_trans (a b c : Str) (h : decide (a.cps.toList ≤ b.cps.toList) = true) (h' : decide (b.cps.toList ≤ c.cps.toList) = true) : decide (a.cps.toList ≤ c.cps.toList) = true :=
  decide_eq_true (List.le_trans (of_decide_eq_true h) (of_decide_eq_true h'))
theorem le_str_total (a b : Str) : (decide (a.cps.toList ≤ b.cps.toList) || decide (b.cps.toList ≤ a.cps.toList)) = true := by
  rcases List.le_total a.cps.toList b.cps.toList with h | h
  · rw [decide_eq_true h]; rfl
  · rw [decide_eq_true h, Bool.or_true]
theorem le_str_antisymm {a b : Str} (h : decide (a.cps.toList ≤ b.cps.toList) = true) (h' : decide (b.cps.toList ≤ a.cps.toList) = true) : a = b := by
  have e := List.le_antisymm (of_decide_eq_true h) (of_decide_eq_true h')
  obtain ⟨⟨a⟩⟩ := a
  obtain ⟨⟨b⟩⟩ := b
  simp at e
  rw [e]
theorem sortS_sorted (a : List Str) : (sortS a).Pairwise fun x y => decide (x.cps.toList ≤ y.cps.toList) = true := List.pairwise_mergeSort le_str_trans le_str_total a
theorem sortS_p (a : List Str) : (sortS a).Perm a := List.mergeSort_perm _ _
theorem sortS_perm {a b : List Str} (h : a.Perm b) : sortS a = sortS b :=
  List.Perm.eq_of_pairwise (fun x y _ _ h h' => le_str_antisymm h h') (sortS_sorted a) (sortS_sorted b) ((sortS_p a).trans (h.trans (sortS_p b).symm))

def SetTO (w : World) (a : Addr) (l : List Str) : HO := .ext fun h => SetT w h a l
section
variable {X : Cx}
theorem setTO_new {w : World} {P : Program} {H : Hp} {h : Heap} {a : Addr} {l : List Str} (R : SetT w h a l) : ObjOk P w H h a (SetTO w a l) :=
  ⟨R, (let ⟨ob, _, _, _, ho, _⟩ := R; ⟨ob, ho⟩), fun _ _ p k => SetT.keep p k⟩
theorem txt_at : ∀ {xs : List Str} {its : List Value}, Vals (xs.map V.str) its → ∀ (i : Nat) (v : Value), its[i]? = some v → ∃ (x : Str) (t : Tok), xs[i]? = some x ∧ v = Value.str x t
  | [], _, r, i, v, h => by cases r; simp at h
  | x :: xs, _, r, i, v, h => by
    cases r with
    | cons q t =>
      cases i with
      | zero =>
        obtain ⟨tk, e⟩ := q
        simp at h
        exact ⟨x, tk, rfl, h.symm.trans e⟩
      | succ i => exact txt_at t i v (by simpa using h)
theorem cr_setT (hc : X.calm = true) : CallR X (.type "set") (fun vs H Q => ∃ a xs, vs = [.ref a] ∧ (SqL X.K H a (xs.map V.str) ∨ SqT X.K H a (xs.map V.str)) ∧ xs.length < 4000 ∧ ∀ p, H p = none → Q (.ref p) (upd H p (SetTO X.w p (setTs xs)))) := by
  intro pins s σ H vs us Q I r h
  obtain ⟨a, xs, rfl, hs, hz, q⟩ := h
  rw [Vals.ref1 r]
  have hb : xs.length + 1 < scanBound := by unfold scanBound; omega
  have hh : X.A.handled = none := I.ok.hd hc
  have fin : ∀ (hp : Heap) (tk : Nat), SetT X.w hp s.heap.objs.size (setTs xs) → (∀ b o, b < s.heap.objs.size → s.heap.get? b = some o → hp.get? b = some o) → ∃ x H1, Inv X pins σ H1 { s with heap := hp, toks := tk } ∧ RelV x (.ref s.heap.objs.size) ∧ Q x H1 := fun hp tk R k =>
    ⟨.ref _, upd H s.heap.objs.size (SetTO X.w s.heap.objs.size (setTs xs)), I.laid (t' := tk) (fun b u e => k b u (Heap.lt_size e) e) (Nat.le_refl _) (setTO_new R), rfl, q _ (I.hok.fresh (Nat.le_refl _))⟩
  rcases hs with hs | hs
  · obtain ⟨its, rv, hl, _⟩ := I.list hs
    have hlen := rv.length
    rw [List.length_map] at hlen
    exact setT_list hh hl.isList (fun i v e => txt_at rv i v (by simpa using e)) (by simpa using hlen.symm) hb fin
  · obtain ⟨its, rv, hl, _⟩ := I.tuple hs
    have hlen := rv.length
    rw [List.length_map] at hlen
    exact setT_tuple hh (show s.heap.IsTuple a its.toArray from hl) (fun i v e => txt_at rv i v (by simpa using e)) (by simpa using hlen.symm) hb fin
def strV : Value → Str
  | .str x _ => x
  | _ => Str.empty
theorem each_tx : ∀ {vs : List Value}, (∀ v ∈ vs, ∃ (x : Str) (t : Tok), v = Value.str x t) → PySem.W.EachIs (fun v (x : Str) => RelV (.str x) v) vs (vs.map strV)
  | [], _ => .nil
  | v :: vs, h => by
    obtain ⟨x, t, rfl⟩ := h v List.mem_cons_self
    exact .cons ⟨t, rfl⟩ (each_tx fun u hu => h u (List.mem_cons_of_mem _ hu))
theorem cr_sortT (hc : X.calm = true) (hu : X.A.units + 64 < cLine) : CallR X (.builtin "sorted") (fun vs H Q => ∃ a l, vs = [.ref a] ∧ H a = some (SetTO X.w a l) ∧ ∀ p, H p = none → Q (.ref p) (upd H p (.lst ((sortS l).map V.str)))) := by
  intro pins s σ H vs us Q I r h
  obtain ⟨a, l, rfl, ha, q⟩ := h
  rw [Vals.ref1 r]
  obtain ⟨ob, es, ep, tb, ho, hx, hd, q1, q2, q3, q4, q5, q6, q7⟩ : SetT X.w s.heap a l := (I.hok a _ ha).1
  refine Calls.call_function_entry kind_sorted plain_sorted entry_sorted (args_sorted1 _) ?_
  unfold Builtin.«sorted»
  refine wpAny_bind (m := checkCount "sorted" 1 1 _) (wpAny_pure ?_)
  refine wpAny_bind (collect_set (A := X.A.in1) (I.ok.hd hc) ⟨ob, ho, hx.1, hd⟩ q5 q4 q6 q7 fun s1 vs k1 hz g1 o1 pm => ?_)
  have hvl : vs.length < 4096 := by
    rw [pm.length_eq, List.length_map, Array.length_toList]
    exact q4
  have htx : ∀ v ∈ vs, ∃ (x : Str) (t : Tok), v = Value.str x t := fun v hv => by
    obtain ⟨e, he, qe⟩ := List.mem_map.mp (pm.mem_iff.mp hv)
    obtain ⟨x, t, h1, _⟩ := q1 e he
    exact ⟨x, t, qe.symm.trans h1⟩
  have hpl : (vs.map strV).Perm l := by
    have h1 := pm.map strV
    rw [List.map_map] at h1
    exact h1.trans q2
  have ev := each_tx htx
  refine wpAny_bind (wpAny_newList ?_ (by rw [sizeLine_eq]; omega))
  have oL : (s1.heap.push (seqObj "list" vs.toArray 0)).get? s1.heap.objs.size = some (seqObj "list" vs.toArray 0) := Heap.get?_push_size _ rfl
  refine wpAny_bind (wpAny_holding ?_)
  refine PySem.W.list_sort_data (enc := fun x : Str => PyData.str x) oL ev (ev.mono fun v x hv => ?_) (PySem.W.AllAlike.of fun _ _ => rfl) (PySem.W.Sortable.others fun _ => ⟨fun z => (nomatch z), fun _ z => (nomatch z)⟩) (by rw [List.length_map, sizeLine_eq]; omega) (fun b _ => ?_) fun out hlen ho2 => ?_
  · obtain ⟨t, rfl⟩ := hv
    exact ⟨_, Reads.str x t, by simp⟩
  · have : PyData.depth (.str b) = 0 := by first | rfl | simp [PyData.depth]
    show X.A.units + 1 + 1 + PyData.depth (.str b) < cLine
    omega
  · rw [PySem.W.dataLe_str (fun x : Str => x)] at ho2
    have e2 : (vs.map strV).mergeSort (fun a b => decide (a.cps.toList ≤ b.cps.toList)) = sortS l := sortS_perm hpl
    rw [e2] at ho2
    have vo : Vals ((sortS l).map V.str) out := vals_each ho2
    obtain ⟨c, hcc⟩ := sortedHeap_at (vs := vs) (out := out.toArray) oL
    obtain ⟨h1, gn, dr, tk, os1⟩ := s1
    have o1 : os1 = s.os := o1
    subst o1
    have keep : ∀ b u, s.heap.get? b = some u → (sortedHeap (h1.push (seqObj "list" vs.toArray 0)) h1.objs.size vs out.toArray).get? b = some u := fun b u e => by
      have e1 : h1.get? b = some u := k1 b u e
      have lt := Heap.lt_size e1
      rw [sortedHeap_old (Nat.ne_of_lt lt) (by rw [Heap.size_push]; exact Nat.lt_succ_of_lt lt)]
      exact Heap.get?_push_of_some _ e1
    have hn : H h1.objs.size = none := I.hok.fresh hz
    have hl2 : ((sortS l).map V.str).length ≤ sizeLine := by
      rw [vo.length, hlen, List.length_map, sizeLine_eq]
      omega
    have J : L2.Inv X pins σ (upd H h1.objs.size (.lst ((sortS l).map V.str))) { s with heap := sortedHeap (h1.push (seqObj "list" vs.toArray 0)) h1.objs.size vs out.toArray, gens := gn, drawn := dr, toks := tk } :=
      I.call (ch := []) (Un.laid keep hz hn) (I.hok.laid keep hz ⟨hl2, out, c, vo, hcc⟩) (by have g1 : gn = s.gens := g1; rw [g1]; exact I.bare) (fun _ z => nomatch z)
    exact wpAny_pure ⟨_, rfl, .ref _, _, J, rfl, q _ hn⟩
end
end DL

namespace DL
open PySem PySem.Spec PyProof.Rows L2

abbrev QV := RV → Mu → Prop
abbrev QX := Ex → Mu → Prop
abbrev QB := Bool → Mu → Prop
abbrev QD := List D → Mu → Prop
/-- what a def does: the arguments, the store, what follows, what follows an exception -/
structure Spc where
  run : List RV → Mu → QV → QX → Prop
  mono : ∀ rvs μ (Q Q' : QV) (X X' : QX), run rvs μ Q X → (∀ r m, Q r m → Q' r m) → (∀ e m, X e m → X' e m) → run rvs μ Q' X'

/-- what a def does with a lambda: r, what the lambda does -/
structure HSp where
  run : (Mu → QV → QX → Prop) → Mu → QV → Prop
  mono : ∀ r μ (Q Q' : QV), run r μ Q → (∀ r m, Q r m → Q' r m) → run r μ Q'
mutual
def toPy : D → Option PyData
  | .non => some .none
  | .bl b => some (.bool b)
  | .int i => some (.int i)
  | .str x => some (.str x)
  | .lst xs => (toPys xs).map .list
  | .tup xs => (toPys xs).map .tuple
  | .ty _ => none
  | .gl _ => none
  | .dic _ => none
  | .dit _ => none
  | .obj _ _ => none
def toPys : List D → Option (List PyData)
  | [] => some []
  | d :: ds => (toPy d).bind fun p => (toPys ds).map fun ps => p :: ps
end

inductive Bop where
  | add | sub | mul | fdiv | mod | pow
inductive Cop where
  | eq | ne | lt | le | gt | ge | isN | notN | inn | nin
/-- built-in functions of values -/
inductive Bi where
  | len | all | any | int | list | tuple | str | sorted | sorset | lenset | repr | sum | min
inductive Ty where
  | str | int | bool | list | tuple | dict | lstup | own (c : Str)
/-- operators by an own class's methods -/
inductive Oo where
  | or | and | ror | eq | ne | le | inn | nin | ix | eqd
inductive Tg where
  | nm (i : Nat) | tp (is : List Nat)

mutual
inductive E where
  | var (i : Nat) | cst (d : D) | glb (x : Str) (d : D)
  | bin (o : Bop) (a b : E) | cmp (o : Cop) (a b : E) | chn (o o' : Cop) (a b c : E)
  | and (a b : E) | or (a b : E) | one (a : E) | not (a : E) | ife (c : T) (a b : E)
  | ix (a b : E) | sl (a : E) (lo hi : Po) | rev (a : E)
  | fld (a : E) (c f : Str)
  | xfld (a : E) (f : Str) (cs : List Str) | xisi (a : E) (x : Str) (tab : List (Str × Bool)) | lenO (a : E) (c : Str) (S : Spc)
  | bi (f : Bi) (as : As) | isi (a : E) (t : Ty)
  | tup (as : As) | lst (as : As)
  | lc (elt : E) (t : Tg) (it : It) (ifs : T)
  | call (f : Str) (S : Spc) (as : As)
  | meth (a : E) (c m : Str) (S : Spc) (as : As)
  | app (a e : E) | popat (a e : E)
  | lstO (as : As) | listO (as : As) | lcO (elt : E) (t : Tg) (it : It) (ifs : T)
  | bad | dic0 | dget (a k d : E) | dictO (a : E) | dcO (ek ev : E) (t : Tg) (it : It) (ifs : T)
  | ow (o : Oo) (a b : E) (c : Str) (S : Spc) | callO (a : E) (c : Str) (S : Spc) (as : As) | isiO (a : E) (c : Str)
  | sortK (a : E) | dmrg (a b : E) | lcV (elt : E) (t : Tg) (a : E) (ifs : T)
  | sorset (a : E) | lc2 (elt : E) (t1 : Tg) (i1 : It) (c1 : T) (t2 : Tg) (i2 : It) (c2 : T) | cnt (a b : E) | addO (a b : E)
  | lenset (a : E) | ext (a e : E) | insat (a i e : E) | dic1 (k v : E) | tidx (a b : E)
  | callK (f : Str) (ks : List Str) (pl : List (Nat ⊕ D)) (S : Spc) (as kas : As) | lam (f q : Str) (h : HSp) (b : E) | act (i : Nat) (S : Spc)
inductive Po where
  | no | at (e : E)
inductive As where
  | nil | cons (a : E) (r : As) | ref (a : E) (r : As) | star (a : E) (r : As)
/-- tests; tt: no test -/
inductive T where
  | tt | v (e : E) | and (a b : T) | or (a b : T) | one (a : T) | not (a : T)
inductive It where
  | seq (a : E) | rng (a : E) | rng2 (a b : E) | enm (a : E) | zip (a b : E)
end

def flD : D → Bool
  | .non | .bl _ | .int _ | .str _ => true
  | _ => false
/-- == of flat things -/
def eqF : D → D → Bool
  | .non, .non => true
  | .bl a, .bl b => a == b
  | .bl a, .int b => (if a then 1 else 0) == b
  | .int a, .bl b => a == (if b then 1 else 0)
  | .int a, .int b => a == b
  | .str a, .str b => a == b
  | _, _ => false
def eqP (p q : PyData) : Option Bool := if SeqAt.shaped p && SeqAt.shaped q then some (PyData.eqv p q) else none
/-- == of plain things -/
def eqPl (d e : D) : Option Bool := (toPy d).bind fun p => (toPy e).bind fun q => if PyData.canLay0 p && PyData.canLay0 q && decide (PyData.depth p ≤ 62) then some (PyData.eqv p q) else none
/-- of two dicts of as many keys: r of the first -/
def hitsD (b : List (Key × D)) : List (Key × D) → Option Bool
  | [] => some true
  | (k, v) :: r => match lk b k with
    | none => some false
    | some u => (eqPl v u).bind fun e => (hitsD b r).map (e && ·)
def eqDic (a b : List (Key × D)) : Option Bool := if a.length = b.length then hitsD b a else some false
def keyOf : D → Option Key
  | .int i => some (.inl i)
  | .str x => some (.inr x)
  | _ => none
def eqD : D → D → Option Bool
  | .dic a, .dic b => eqDic a b
  | .str x, .str y => some (x == y)
  | .str _, .non => some false
  | .non, .str _ => some false
  | .str _, .int _ => some false
  | .int _, .str _ => some false
  | d, e => (toPy d).bind fun p => (toPy e).bind fun q => eqP p q
def inD (d : D) (es : List D) : Option Bool :=
  if flD d && es.all flD then some (es.any fun e => eqF e d) else
    (toPy d).bind fun p => (toPys es).bind fun ps => if SeqAt.shaped p && SeqAt.shaped (.list ps) then some (ps.any fun q => PyData.eqv q p) else none
def binD : Bop → D → D → Option D
  | .add, .int i, .int j => some (.int (i + j))
  | .sub, .int i, .int j => some (.int (i - j))
  | .mul, .int i, .int j => if (-(2 ^ 64) < i ∧ i < 2 ^ 64) ∨ (-(2 ^ 64) < j ∧ j < 2 ^ 64) then some (.int (i * j)) else none
  | .fdiv, .int i, .int j => if 0 < j ∧ j < 1073741824 then some (.int (i / j)) else none
  | .mod, .int i, .int j => if 0 < j then some (.int (i % j)) else none
  | .pow, .int i, .int j => if 0 ≤ j ∧ j ≤ 1000000 ∧ i.natAbs < 2 ^ 64 then some (.int (i ^ j.toNat)) else none
  | .add, .str x, .str y => if x.length + y.length ≤ 16777216 then some (.str (x ++ y)) else none
  | .mul, .str x, .int j => if 0 ≤ j ∧ j ≤ 1000 ∧ x.length ≤ 1000 then some (.str (Txt.mul x j)) else none
  | .add, .lst xs, .lst ys => if xs.length + ys.length ≤ 16777216 then some (.lst (xs ++ ys)) else none
  | .add, .tup xs, .tup ys => if xs.isEmpty = false ∧ xs.length + ys.length ≤ 16777216 then some (.tup (xs ++ ys)) else none
  | _, _, _ => none
def isNon : D → Bool
  | .non => true
  | _ => false
def cmpD : Cop → D → D → Option Bool
  | .eq, d, e => eqD d e
  | .ne, d, e => (eqD d e).map (!·)
  | .lt, .int i, .int j => some (decide (i < j))
  | .le, .int i, .int j => some (decide (i ≤ j))
  | .gt, .int i, .int j => some (decide (j < i))
  | .ge, .int i, .int j => some (decide (j ≤ i))
  | .isN, d, .non => some (isNon d)
  | .notN, d, .non => some (!isNon d)
  | .isN, .bl c, .bl b => some (decide (c = b))
  | .notN, .bl c, .bl b => some (!decide (c = b))
  | .inn, .str x, .str z => match x.cps.toList with
    | [c] => some (decide (c ∈ z.cps.toList))
    | _ => none
  | .inn, d, .lst es => inD d es
  | .inn, d, .tup es => inD d es
  | .nin, d, .lst es => (inD d es).map (!·)
  | .nin, d, .tup es => (inD d es).map (!·)
  | .inn, d, .dic kvs => (keyOf d).map fun k => (lk kvs k).isSome
  | .nin, d, .dic kvs => (keyOf d).map fun k => !(lk kvs k).isSome
  | _, _, _ => none
def chD (c : Nat) : D := .str ⟨#[c]⟩
def seqD : D → Option (List D)
  | .lst xs => some xs
  | .tup xs => some xs
  | .str z => if z.length ≤ 16777216 then some (z.cps.toList.map chD) else none
  | .dic kvs => if kvs.length ≤ 16777216 then some (kvs.map fun kv => keyD kv.1) else none
  | _ => none
def ixD : D → D → Option D
  | .lst xs, .int i => atI xs i
  | .tup xs, .int i => atI xs i
  | .str z, .int i => (if z.length ≤ 16777216 then atI z.cps.toList i else none).map chD
  | .dic kvs, k => (keyOf k).bind (lk kvs)
  | _, _ => none
def optI : Option D → Option (Option Int)
  | none => some none
  | some (.int i) => some (some i)
  | some _ => none
def cutD (xs : List D) (lo hi : Option Int) : List D := (xs.drop (HT.sIx xs.length 0 lo)).take (HT.sIx xs.length xs.length hi - HT.sIx xs.length 0 lo)
def truD : D → Option Bool
  | .non => some false
  | .bl b => some b
  | .int i => some (i != 0)
  | .lst xs => some (!xs.isEmpty)
  | .tup xs => some (!xs.isEmpty)
  | _ => none
def blsD : List D → Option (List Bool)
  | [] => some []
  | .bl b :: r => (blsD r).map (b :: ·)
  | _ :: _ => none
def strsD : List D → Option (List Str)
  | [] => some []
  | .str x :: r => (strsD r).map (x :: ·)
  | _ :: _ => none
def intsD : List D → Option (List Int)
  | [] => some []
  | .int x :: r => (intsD r).map (x :: ·)
  | _ :: _ => none
/-- a list or tuple of texts -/
def txtsD : D → Option (List Str)
  | .lst xs => strsD xs
  | .tup xs => strsD xs
  | _ => none
def biD : Bi → List D → Option D
  | .len, [.lst xs] => some (.int xs.length)
  | .len, [.tup xs] => some (.int xs.length)
  | .len, [.str z] => if z.length ≤ 16777216 then some (.int z.length) else none
  | .all, [.lst xs] => (blsD xs).map fun bs => .bl (bs.all id)
  | .any, [.lst xs] => (blsD xs).map fun bs => .bl (bs.any id)
  | .int, [.int i] => some (.int i)
  | .int, [.bl b] => some (.int (if b then 1 else 0))
  | .str, [.str x] => some (.str x)
  | .str, [.tup xs] => (shD (.tup xs)).map .str
  | .min, [.lst xs] => (intsD xs).bind fun ns => ns.min?.map .int
  | .tuple, [.tup xs] => some (.tup xs)
  | .tuple, [.lst xs] => some (.tup xs)
  | .sum, [.lst xs] => (intsD xs).map fun ns => .int ns.sum
  | .repr, [d] => (shD d).map .str
  | _, _ => none
/-- the keyword-only parameters: the j-th keyword's value, or the default -/
def fillK (zs : List RV) : List (Nat ⊕ D) → Option (List RV)
  | [] => some []
  | .inl j :: r => (zs[j]?).bind fun z => (fillK zs r).map (z :: ·)
  | .inr d :: r => (fillK zs r).map (.dat d :: ·)
def itemsD : D → Option (List D)
  | .lst xs => some xs
  | .tup xs => some xs
  | _ => none
/-- those that make a new list -/
def biL : Bi → List D → Option (List D)
  | .list, [.lst xs] => some xs
  | .list, [.tup xs] => some xs
  | .list, [.str z] => if z.length ≤ 1000 then some (z.cps.toList.map chD) else none
  | .sorted, [.lst xs] => (strsD xs).map fun ss => (sortS ss).map D.str
  | _, _ => none
def tyD : D → Option String
  | .non => some "NoneType"
  | .bl _ => some "bool"
  | .int _ => some "int"
  | .str _ => some "str"
  | .lst _ => some "list"
  | .tup _ => some "tuple"
  | .dic _ => some "dict"
  | .dit _ => some "dict"
  | _ => none
def isiD : Ty → D → Option Bool
  | .str, d => (tyD d).map fun _ => match d with | .str _ => true | _ => false
  | .tuple, d => (tyD d).map fun _ => match d with | .tup _ => true | _ => false
  | .list, d => (tyD d).map fun _ => match d with | .lst _ => true | _ => false
  | .dict, d => (tyD d).map fun _ => match d with | .dic _ => true | .dit _ => true | _ => false
  | .bool, d => (tyD d).map fun _ => match d with | .bl _ => true | _ => false
  | .int, d => (tyD d).map fun _ => match d with | .int _ => true | .bl _ => true | _ => false
  | .lstup, d => (tyD d).map fun _ => match d with | .lst _ => true | .tup _ => true | _ => false
  | .own _, _ => none
def setAll : List Nat → List D → Rho → Option Rho
  | [], [], ρ => some ρ
  | i :: is, d :: ds, ρ => setAll is ds (ρ.set i (some (.dat d)))
  | _, _, _ => none
def tgD : Tg → D → Rho → Option Rho
  | .nm i, d, ρ => some (ρ.set i (some (.dat d)))
  | .tp is, .tup ds, ρ => setAll is ds ρ
  | .tp _, _, _ => none
def Tg.slots : Tg → List Nat
  | .nm i => [i]
  | .tp is => is
/-- the slots of a comprehension's own names forgotten -/
def wipeR (ρ : Rho) : List Nat → Rho
  | [] => ρ
  | v :: vs => (wipeR ρ vs).set v none
def datsOf : List RV → Option (List D)
  | [] => some []
  | .dat d :: r => (datsOf r).map (d :: ·)
  | _ :: _ => none
def vws (μ : Mu) : List RV → Option (List D)
  | [] => some []
  | r :: rs => (vw μ r).bind fun d => (vws μ rs).map (d :: ·)
def enumD : Nat → List D → List D
  | _, [] => []
  | n, d :: ds => .tup [.int n, d] :: enumD (n + 1) ds
def zipD : List D → List D → List D
  | a :: as, b :: bs => .tup [a, b] :: zipD as bs
  | _, _ => []
def rngD (lo : Int) (n : Nat) : List D := (List.range n).map fun (i : Nat) => .int (lo + i)
def small (i : Int) : Bool := decide (-16777216 ≤ i ∧ i ≤ 16777216)
/-- what follows where something is there -/
def opt {α : Type} (o : Option α) (P : α → Prop) : Prop := match o with
  | some a => P a
  | none => False

def RV.ok : RV → Bool
  | .exc _ _ => false
  | .since _ _ _ => false
  | _ => true
/-- an object of the class c, without an attribute m of its own -/
def isOf (c m : Str) (μ : Mu) : RV → Prop
  | .dat (.obj c' fs) => c' = c ∧ fs.lookup m = none
  | .loc l => opt (μ[l]?) fun o => match o with
    | .ins c' fs => c' = c ∧ fs.lookup m = none
    | .frz (.obj c' fs) => c' = c ∧ fs.lookup m = none
    | _ => False
  | _ => False
def compL (tg : D → Rho → Option Rho) (ts : Rho → Mu → QB → Prop) (el : Rho → Mu → QV → Prop) (ρ : Rho) : List D → Mu → QD → Prop
  | [], μ, Q => Q [] μ
  | d :: ds, μ, Q => opt (tg d ρ) fun ρ' => ts ρ' μ fun b μ1 => if b = true then el ρ' μ1 fun rv μ2 => opt (fz μ2 rv) fun p => compL tg ts el ρ ds p.2 fun es μ4 => Q (p.1 :: es) μ4
      else compL tg ts el ρ ds μ1 Q

/-- a comprehension of two fors: it2 what the second one walks, in2 its turns -/
def compL2 (tg : D → Rho → Option Rho) (ts : Rho → Mu → QB → Prop) (it2 : Rho → Mu → QD → Prop) (in2 : Rho → List D → Mu → QD → Prop) (ρ : Rho) : List D → Mu → QD → Prop
  | [], μ, Q => Q [] μ
  | d :: ds, μ, Q => opt (tg d ρ) fun ρ' => ts ρ' μ fun b μ1 => if b = true then it2 ρ' μ1 fun ds2 μ2 => ds2.length ≤ 1000 ∧ in2 ρ' ds2 μ2 fun es μ3 => compL2 tg ts it2 in2 ρ ds μ3 fun es2 μ4 => Q (es ++ es2) μ4
      else compL2 tg ts it2 in2 ρ ds μ1 Q
/-- a comprehension over a list that stays the store's own, and stays as it is meanwhile -/
def compV (ck : Mu → Prop) (tg : D → Rho → Option Rho) (ts : Rho → Mu → QB → Prop) (el : Rho → Mu → QV → Prop) (ρ : Rho) : List D → Mu → QD → Prop
  | [], μ, Q => ck μ ∧ Q [] μ
  | d :: ds, μ, Q => ck μ ∧ opt (tg d ρ) fun ρ' => ts ρ' μ fun b μ1 => if b = true then el ρ' μ1 fun rv μ2 => opt (fz μ2 rv) fun p => compV ck tg ts el ρ ds p.2 fun es μ4 => Q (p.1 :: es) μ4
      else compV ck tg ts el ρ ds μ1 Q
/-- a dict comprehension: the dict is the store's l -/
def compK (tg : D → Rho → Option Rho) (ts : Rho → Mu → QB → Prop) (ek ev : Rho → Mu → QV → Prop) (ρ : Rho) (l : Nat) : List D → Mu → (Mu → Prop) → Prop
  | [], μ, Q => Q μ
  | d :: ds, μ, Q => opt (tg d ρ) fun ρ' => ts ρ' μ fun b μ1 => if b = true then ek ρ' μ1 fun rk μ2 => opt (vw μ2 rk) fun kd => opt (keyOf kd) fun k => ev ρ' μ2 fun rv μ3 => opt (fz μ3 rv) fun p => opt (p.2[l]?) fun o => match o with
        | .dic kvs => kvs.length < 16777216 ∧ compK tg ts ek ev ρ l ds (p.2.set l (.dic (pk kvs k p.1))) Q
        | _ => False
      else compK tg ts ek ev ρ l ds μ1 Q
/-- kvs put into k0, one behind another -/
def mrgD (k0 kvs : List (Key × D)) : List (Key × D) := kvs.foldl (fun a q => pk a q.1 q.2) k0
def RV.notAt (l : Nat) : RV → Prop
  | .loc i => i ≠ l
  | _ => True
/-- the dict r put into the dict at l -/
def mrgAt (l : Nat) (r : RV) (μ : Mu) (k : Mu → Prop) : Prop := r.notAt l ∧ opt (vw μ r) fun d => opt (μ[l]?) fun o => match d, o with
  | .dic kvs, .dic k0 => k0.length + kvs.length ≤ 16777216 ∧ k (μ.set l (.dic (mrgD k0 kvs)))
  | _, _ => False
def Oo.nm : Oo → Str
  | .or => "__or__" | .and => "__and__" | .ror => "__ror__" | .eq => "__eq__" | .ne => "__eq__" | .le => "__le__" | .inn => "__contains__" | .nin => "__contains__" | .ix => "__getitem__" | .eqd => "__eq__"
def Oo.flip : Oo → Bool
  | .ror => true | .inn => true | .nin => true | _ => false
/-- what the other operand may be -/
def Oo.fits (o : Oo) (c : Str) (μ : Mu) (r : RV) : Prop := match o with
  | .or => isOf c "__or__" μ r
  | .and => isOf c "__and__" μ r
  | .ror => ∃ xs, vw μ r = some (.lst xs)
  | .inn => True
  | .nin => True
  | .ix => True
  | .eqd => ∃ d, vw μ r = some d ∧ (tyD d).isSome = true
  | _ => isOf c "__eq__" μ r
/-- how the answer is taken -/
def Oo.back (o : Oo) (Q : QV) : QV := fun rv μ => match o with
  | .or | .and | .ror | .ix => Q rv μ
  | .ne | .nin => ∃ z, rv = .dat (.bl z) ∧ Q (.dat (.bl (!z))) μ
  | _ => ∃ z, rv = .dat (.bl z) ∧ Q (.dat (.bl z)) μ
theorem Oo.back_imp {o : Oo} {Q Q' : QV} {rv : RV} {μ : Mu} (h : o.back Q rv μ) (f : ∀ r m, Q r m → Q' r m) : o.back Q' rv μ := by
  cases o <;> first | exact f _ _ h | (obtain ⟨z, e, q⟩ := h; exact ⟨z, e, f _ _ q⟩)

mutual
def wpE : E → Rho → Mu → QV → QX → Prop
  | .var i, ρ, μ, Q, _ => opt (ρ[i]?) fun o => opt o fun rv => Q rv μ
  | .cst d, _, μ, Q, _ => Q (.dat d) μ
  | .glb _ d, _, μ, Q, _ => Q (.dat d) μ
  | .bin o a b, ρ, μ, Q, X => wpE a ρ μ (fun r1 μ1 => wpE b ρ μ1 (fun r2 μ2 => opt (vw μ2 r1) fun d => opt (vw μ2 r2) fun e => opt (binD o d e) fun z => Q (.dat z) μ2) X) X
  | .cmp o a b, ρ, μ, Q, X => wpE a ρ μ (fun r1 μ1 => wpE b ρ μ1 (fun r2 μ2 => opt (vw μ2 r1) fun d => opt (vw μ2 r2) fun e => opt (cmpD o d e) fun z => Q (.dat (.bl z)) μ2) X) X
  | .chn o o' a b c, ρ, μ, Q, X => wpE a ρ μ (fun r1 μ1 => wpE b ρ μ1 (fun r2 μ2 => opt (vw μ2 r1) fun d => opt (vw μ2 r2) fun e => opt (cmpD o d e) fun z =>
      if z = true then wpE c ρ μ2 (fun r3 μ3 => opt (vw μ3 r2) fun e => opt (vw μ3 r3) fun f => opt (cmpD o' e f) fun z => Q (.dat (.bl z)) μ3) X else Q (.dat (.bl false)) μ2) X) X
  | .and a b, ρ, μ, Q, X => wpE a ρ μ (fun r1 μ1 => match r1 with
      | .dat (.bl true) => wpE b ρ μ1 Q X
      | .dat (.bl false) => Q (.dat (.bl false)) μ1
      | _ => False) X
  | .or a b, ρ, μ, Q, X => wpE a ρ μ (fun r1 μ1 => match r1 with
      | .dat (.bl true) => Q (.dat (.bl true)) μ1
      | .dat (.bl false) => wpE b ρ μ1 Q X
      | _ => False) X
  | .one a, ρ, μ, Q, X => wpE a ρ μ Q X
  | .not a, ρ, μ, Q, X => wpE a ρ μ (fun r1 μ1 => match r1 with
      | .dat (.bl b) => Q (.dat (.bl (!b))) μ1
      | _ => False) X
  | .ife c a b, ρ, μ, Q, X => wpT c ρ μ (fun z μ1 => if z = true then wpE a ρ μ1 Q X else wpE b ρ μ1 Q X) X
  | .ix a b, ρ, μ, Q, X => wpE a ρ μ (fun r1 μ1 => wpE b ρ μ1 (fun r2 μ2 => opt (vw μ2 r1) fun d => opt (vw μ2 r2) fun e => opt (ixD d e) fun z => Q (.dat z) μ2) X) X
  | .sl a lo hi, ρ, μ, Q, X => wpE a ρ μ (fun r1 μ1 => wpO lo ρ μ1 (fun l μ2 => wpO hi ρ μ2 (fun h μ3 => opt (vw μ3 r1) fun d => match d with
      | .lst xs => Q (.dat (.lst (cutD xs l h))) μ3
      | .str z => z.length ≤ 16777216 ∧ Q (.dat (.str (Txt.slice z l h))) μ3
      | .tup xs => Q (.dat (.tup (cutD xs l h))) μ3
      | _ => False) X) X) X
  | .rev a, ρ, μ, Q, X => wpE a ρ μ (fun r1 μ1 => opt (vw μ1 r1) fun d => match d with
      | .lst xs => Q (.dat (.lst xs.reverse)) μ1
      | _ => False) X
  | .fld a c f, ρ, μ, Q, X => wpE a ρ μ (fun r1 μ1 => match r1 with
      | .dat (.obj c' fs) => c' = c ∧ opt (fs.lookup f) fun d => Q (.dat d) μ1
      | .loc l => opt (μ1[l]?) fun o => match o with
        | .ins c' fs => c' = c ∧ opt (fs.lookup f) fun d => Q (.dat d) μ1
        | .frz (.obj c' fs) => c' = c ∧ opt (fs.lookup f) fun d => Q (.dat d) μ1
        | _ => False
      | _ => False) X
  | .xfld a f cs, ρ, μ, Q, X => wpE a ρ μ (fun r1 μ1 => match r1 with
      | .exc c fs => c ∈ cs ∧ opt (fs.lookup f) fun d => Q (.dat d) μ1
      | _ => False) X
  | .xisi a _ tab, ρ, μ, Q, X => wpE a ρ μ (fun r1 μ1 => match r1 with
      | .exc c _ => opt (tab.lookup c) fun b => Q (.dat (.bl b)) μ1
      | _ => False) X
  | .lenO a c S, ρ, μ, Q, X => wpE a ρ μ (fun r0 μ0 => isOf c "__len__" μ0 r0 ∧ S.run [r0] μ0 (fun rv μ1 => match rv with
      | .dat (.int n) => 0 ≤ n ∧ n < 9223372036854775808 ∧ Q (.dat (.int n)) μ1
      | _ => False) X) X
  | .bi f as, ρ, μ, Q, X => wpA as ρ μ (fun rs μ1 => opt (vws μ1 rs) fun ds => match biL f ds with
      | some xs => Q (.dat (.lst xs)) μ1
      | none => opt (biD f ds) fun z => Q (.dat z) μ1) X
  | .isi a t, ρ, μ, Q, X => wpE a ρ μ (fun r1 μ1 => opt (vw μ1 r1) fun d => opt (isiD t d) fun z => Q (.dat (.bl z)) μ1) X
  | .tup as, ρ, μ, Q, X => wpA as ρ μ (fun rs μ1 => opt (datsOf rs) fun ds => ds.length ≤ 16777216 ∧ Q (.dat (.tup ds)) μ1) X
  | .lst as, ρ, μ, Q, X => wpA as ρ μ (fun rs μ1 => opt (datsOf rs) fun ds => ds.length ≤ 16777216 ∧ Q (.dat (.lst ds)) μ1) X
  | .lc el t it ifs, ρ, μ, Q, X => wpI it ρ μ (fun ds μ1 => compL (tgD t) (fun ρ' μ' Q' => wpT ifs ρ' μ' Q' fun _ _ => False) (fun ρ' μ' Q' => wpE el ρ' μ' Q' fun _ _ => False) (wipeR ρ t.slots) ds μ1 fun es μ2 => Q (.dat (.lst es)) μ2) X
  | .call _ S as, ρ, μ, Q, X => wpA as ρ μ (fun rs μ1 => S.run rs μ1 Q X) X
  | .meth a c m S as, ρ, μ, Q, X => wpE a ρ μ (fun r0 μ0 => isOf c m μ0 r0 ∧ wpA as ρ μ0 (fun rs μ1 => S.run (r0 :: rs) μ1 Q X) X) X
  | .app a e, ρ, μ, Q, X => wpE a ρ μ (fun r0 μ0 => match r0 with
      | .loc l => (∃ xs, μ0[l]? = some (.lst xs)) ∧ wpE e ρ μ0 (fun r1 μ1 => opt (fz μ1 r1) fun p => opt (p.2[l]?) fun o => match o with
        | .lst xs => xs.length < 16777216 ∧ Q (.dat .non) (p.2.set l (.lst (xs ++ [p.1])))
        | _ => False) X
      | _ => False) X
  | .popat a e, ρ, μ, Q, X => wpE a ρ μ (fun r0 μ0 => match r0 with
      | .loc l => (∃ xs, μ0[l]? = some (.lst xs)) ∧ wpE e ρ μ0 (fun r1 μ1 => match r1 with
        | .dat (.int i) => opt (μ1[l]?) fun o => match o with
          | .lst xs => small i = true ∧ 0 ≤ i ∧ opt (xs[i.toNat]?) fun z => Q (.dat z) (μ1.set l (.lst (xs.eraseIdx i.toNat)))
          | _ => False
        | _ => False) X
      | _ => False) X
  | .lstO as, ρ, μ, Q, X => wpA as ρ μ (fun rs μ1 => opt (datsOf rs) fun ds => ds.length ≤ 16777216 ∧ Q (.loc μ1.length) (μ1 ++ [.lst ds])) X
  | .listO as, ρ, μ, Q, X => wpA as ρ μ (fun rs μ1 => opt (vws μ1 rs) fun ds => opt (biL .list ds) fun xs => Q (.loc μ1.length) (μ1 ++ [.lst xs])) X
  | .lcO el t it ifs, ρ, μ, Q, X => wpI it ρ μ (fun ds μ1 => compL (tgD t) (fun ρ' μ' Q' => wpT ifs ρ' μ' Q' fun _ _ => False) (fun ρ' μ' Q' => wpE el ρ' μ' Q' fun _ _ => False) (wipeR ρ t.slots) ds μ1 fun es μ2 => Q (.loc μ2.length) (μ2 ++ [.lst es])) X
  | .bad, _, _, _, _ => False
  | .dic0, _, μ, Q, _ => Q (.loc μ.length) (μ ++ [.dic []])
  | .dget a k d, ρ, μ, Q, X => wpE a ρ μ (fun r0 μ0 => (∃ kvs, vw μ0 r0 = some (.dic kvs)) ∧ wpE k ρ μ0 (fun r1 μ1 => wpE d ρ μ1 (fun r2 μ2 => opt (vw μ2 r0) fun dd => opt (vw μ2 r1) fun kd => match dd with
      | .dic kvs => opt (keyOf kd) fun k => match lk kvs k with
        | some v => Q (.dat v) μ2
        | none => Q r2 μ2
      | _ => False) X) X) X
  | .dictO a, ρ, μ, Q, X => wpE a ρ μ (fun r μ1 => opt (vw μ1 r) fun d => match d with
      | .dic kvs => Q (.loc μ1.length) (μ1 ++ [.dic kvs])
      | _ => False) X
  | .dcO ek ev t it ifs, ρ, μ, Q, X => wpI it ρ μ (fun ds μ1 => compK (tgD t) (fun ρ' μ' Q' => wpT ifs ρ' μ' Q' fun _ _ => False) (fun ρ' μ' Q' => wpE ek ρ' μ' Q' fun _ _ => False) (fun ρ' μ' Q' => wpE ev ρ' μ' Q' fun _ _ => False) (wipeR ρ t.slots) μ1.length ds (μ1 ++ [.dic []]) fun μ2 => Q (.loc μ1.length) μ2) X
  | .ow o a b c S, ρ, μ, Q, X => wpE a ρ μ (fun r1 μ1 => wpE b ρ μ1 (fun r2 μ2 => r1.ok = true ∧ r2.ok = true ∧ (if o.flip = true then isOf c o.nm μ2 r2 ∧ o.fits c μ2 r1 ∧ S.run [r2, r1] μ2 (o.back Q) X else isOf c o.nm μ2 r1 ∧ o.fits c μ2 r2 ∧ S.run [r1, r2] μ2 (o.back Q) X)) X) X
  | .callO a c S as, ρ, μ, Q, X => wpE a ρ μ (fun r0 μ0 => isOf c "__call__" μ0 r0 ∧ wpA as ρ μ0 (fun rs μ1 => isOf c "__call__" μ1 r0 ∧ S.run (r0 :: rs) μ1 Q X) X) X
  | .sortK a, ρ, μ, Q, X => wpE a ρ μ (fun r μ1 => opt (vw μ1 r) fun d => match d with
      | .lst xs => xs.all isKeyT = true ∧ Q (.dat (.lst (DL.sortK xs))) μ1
      | _ => False) X
  | .lcV el t a ifs, ρ, μ, Q, X => wpE a ρ μ (fun rv μ1 => opt (vw μ1 rv) fun d => match d with
      | .lst ds => compV (fun m => vw m rv = some (.lst ds)) (tgD t) (fun ρ' μ' Q' => wpT ifs ρ' μ' Q' fun _ _ => False) (fun ρ' μ' Q' => wpE el ρ' μ' Q' fun _ _ => False) (wipeR ρ t.slots) ds μ1 fun es μ2 => Q (.dat (.lst es)) μ2
      | _ => False) X
  | .sorset a, ρ, μ, Q, X => wpE a ρ μ (fun rv μ1 => opt (vw μ1 rv) fun d => opt (txtsD d) fun ss => ss.length < 4000 ∧ Q (.dat (.lst ((sortS (setTs ss)).map .str))) μ1) X
  | .lc2 el t1 i1 c1 t2 i2 c2, ρ, μ, Q, X => wpI i1 ρ μ (fun ds μ1 => ds.length ≤ 1000 ∧ compL2 (tgD t1) (fun ρ' μ' Q' => wpT c1 ρ' μ' Q' fun _ _ => False) (fun ρ' μ' Q' => wpI i2 ρ' μ' Q' fun _ _ => False) (fun ρ' ds2 μ' Q' => compL (tgD t2) (fun ρ2 μ' Q' => wpT c2 ρ2 μ' Q' fun _ _ => False) (fun ρ2 μ' Q' => wpE el ρ2 μ' Q' fun _ _ => False) (wipeR ρ' t2.slots) ds2 μ' Q') (wipeR ρ (t1.slots ++ t2.slots)) ds μ1 fun es μ2 => Q (.dat (.lst es)) μ2) X
  | .cnt a b, ρ, μ, Q, X => wpE a ρ μ (fun r1 μ1 => (∃ xs, vw μ1 r1 = some (.lst xs)) ∧ wpE b ρ μ1 (fun r2 μ2 => opt (vw μ2 r1) fun d => opt (vw μ2 r2) fun e => match d, e with
      | .lst xs, .str x => opt (strsD xs) fun ss => Q (.dat (.int (ss.count x))) μ2
      | _, _ => False) X) X
  | .addO a b, ρ, μ, Q, X => wpE a ρ μ (fun r1 μ1 => wpE b ρ μ1 (fun r2 μ2 => opt (vw μ2 r1) fun d => opt (vw μ2 r2) fun e => match d, e with
      | .lst xs, .lst ys => xs.length + ys.length ≤ 16777216 ∧ Q (.loc μ2.length) (μ2 ++ [.lst (xs ++ ys)])
      | _, _ => False) X) X
  | .lenset a, ρ, μ, Q, X => wpE a ρ μ (fun rv μ1 => opt (vw μ1 rv) fun d => opt (txtsD d) fun ss => ss.length < 4000 ∧ Q (.dat (.int (setTs ss).length)) μ1) X
  | .ext a e, ρ, μ, Q, X => wpE a ρ μ (fun r0 μ0 => match r0 with
      | .loc l => (∃ xs, μ0[l]? = some (.lst xs)) ∧ wpE e ρ μ0 (fun r1 μ1 => opt (fz μ1 r1) fun p => opt (itemsD p.1) fun ys => opt (p.2[l]?) fun o => match o with
        | .lst xs => xs.length + ys.length ≤ 16777216 ∧ Q (.dat .non) (p.2.set l (.lst (xs ++ ys)))
        | _ => False) X
      | _ => False) X
  | .insat a i e, ρ, μ, Q, X => wpE a ρ μ (fun r0 μ0 => match r0 with
      | .loc l => (∃ xs, μ0[l]? = some (.lst xs)) ∧ wpE i ρ μ0 (fun ri μi => match ri with
        | .dat (.int j) => wpE e ρ μi (fun r1 μ1 => opt (fz μ1 r1) fun p => opt (p.2[l]?) fun o => match o with
          | .lst xs => xs.length < 16777216 ∧ small j = true ∧ 0 ≤ j ∧ Q (.dat .non) (p.2.set l (.lst (xs.take j.toNat ++ [p.1] ++ xs.drop j.toNat)))
          | _ => False) X
        | _ => False) X
      | _ => False) X
  | .dic1 k v, ρ, μ, Q, X => wpE k ρ (μ ++ [.dic []]) (fun rk μ1 => opt (vw μ1 rk) fun kd => opt (keyOf kd) fun key => wpE v ρ μ1 (fun rv μ2 => opt (fz μ2 rv) fun p => p.2[μ.length]? = some (.dic []) ∧ Q (.loc μ.length) (p.2.set μ.length (.dic [(key, p.1)]))) X) X
  | .tidx a b, ρ, μ, Q, X => wpE a ρ μ (fun r1 μ1 => (∃ xs, vw μ1 r1 = some (.tup xs)) ∧ wpE b ρ μ1 (fun r2 μ2 => opt (vw μ2 r1) fun d => opt (vw μ2 r2) fun e => match d, e with
      | .tup xs, .str x => opt (strsD xs) fun ss => x ∈ ss ∧ Q (.dat (.int (ss.idxOf x))) μ2
      | _, _ => False) X) X
  | .callK _ _ pl S as kas, ρ, μ, Q, X => wpA as ρ μ (fun rs μ1 => wpA kas ρ μ1 (fun zs μ2 => opt (fillK zs pl) fun ws => S.run (rs ++ ws) μ2 Q X) X) X
  | .lam _ q h b, ρ, μ, Q, _ => μ[0]? = some (.tab q) ∧ h.run (fun μ' Q' X' => wpE b ρ μ' Q' X') μ Q
  | .act i S, ρ, μ, Q, X => (∃ v F α, ρ[i]? = some (some (.since v F α))) ∧ S.run [] μ Q X
  | .dmrg a b, ρ, μ, Q, X => wpE a ρ (μ ++ [.dic []]) (fun r1 μ1 => mrgAt μ.length r1 μ1 fun μ1 => wpE b ρ μ1 (fun r2 μ2 => mrgAt μ.length r2 μ2 fun μ2 => Q (.loc μ.length) μ2) X) X
  | .isiO a c, ρ, μ, Q, X => wpE a ρ μ (fun r μ1 => (isOf c "__class__" μ1 r ∧ Q (.dat (.bl true)) μ1) ∨ opt (vw μ1 r) fun d => (tyD d).isSome = true ∧ Q (.dat (.bl false)) μ1) X
def wpO : Po → Rho → Mu → (Option Int → Mu → Prop) → QX → Prop
  | .no, _, μ, Q, _ => Q none μ
  | .at e, ρ, μ, Q, X => wpE e ρ μ (fun rv μ1 => match rv with
      | .dat (.int i) => Q (some i) μ1
      | _ => False) X
def wpA : As → Rho → Mu → (List RV → Mu → Prop) → QX → Prop
  | .nil, _, μ, Q, _ => Q [] μ
  | .cons a r, ρ, μ, Q, X => wpE a ρ μ (fun rv μ1 => opt (fz μ1 rv) fun p => wpA r ρ p.2 (fun rs μ3 => Q (.dat p.1 :: rs) μ3) X) X
  | .ref a r, ρ, μ, Q, X => wpE a ρ μ (fun rv μ1 => rv.ok = true ∧ wpA r ρ μ1 (fun rs μ3 => Q (rv :: rs) μ3) X) X
  | .star a r, ρ, μ, Q, X => wpE a ρ μ (fun rv μ1 => opt (vw μ1 rv) fun d => match d with
      | .lst xs => wpA r ρ μ1 (fun rs μ3 => Q (xs.map .dat ++ rs) μ3) X
      | .tup xs => wpA r ρ μ1 (fun rs μ3 => Q (xs.map .dat ++ rs) μ3) X
      | _ => False) X
def wpI : It → Rho → Mu → QD → QX → Prop
  | .seq a, ρ, μ, Q, X => wpE a ρ μ (fun rv μ1 => opt (fz μ1 rv) fun p => opt (seqD p.1) fun ds => Q ds p.2) X
  | .rng a, ρ, μ, Q, X => wpE a ρ μ (fun rv μ1 => match rv with
      | .dat (.int n) => small n = true ∧ Q (rngD 0 n.toNat) μ1
      | _ => False) X
  | .rng2 a b, ρ, μ, Q, X => wpE a ρ μ (fun r1 μ1 => wpE b ρ μ1 (fun r2 μ2 => match r1, r2 with
      | .dat (.int m), .dat (.int n) => small m = true ∧ small n = true ∧ small (n - m) = true ∧ Q (rngD m (n - m).toNat) μ2
      | _, _ => False) X) X
  | .enm a, ρ, μ, Q, X => wpE a ρ μ (fun rv μ1 => opt (fz μ1 rv) fun p => match p.1 with
      | .lst ds => Q (enumD 0 ds) p.2
      | .tup ds => Q (enumD 0 ds) p.2
      | _ => False) X
  | .zip a b, ρ, μ, Q, X => wpE a ρ μ (fun r1 μ1 => opt (fz μ1 r1) fun p => wpE b ρ p.2 (fun r2 μ2 => opt (fz μ2 r2) fun q => match p.1, q.1 with
      | .lst xs, .lst ys => xs.length ≤ 16777216 ∧ Q (zipD xs ys) q.2
      | _, _ => False) X) X
def wpT : T → Rho → Mu → QB → QX → Prop
  | .tt, _, μ, Q, _ => Q true μ
  | .v e, ρ, μ, Q, X => wpE e ρ μ (fun rv μ1 => opt (vw μ1 rv) fun d => opt (truD d) fun z => Q z μ1) X
  | .and a b, ρ, μ, Q, X => wpT a ρ μ (fun z μ1 => if z = true then wpT b ρ μ1 Q X else Q false μ1) X
  | .or a b, ρ, μ, Q, X => wpT a ρ μ (fun z μ1 => if z = true then Q true μ1 else wpT b ρ μ1 Q X) X
  | .one a, ρ, μ, Q, X => wpT a ρ μ Q X
  | .not a, ρ, μ, Q, X => wpT a ρ μ (fun z μ1 => Q (!z) μ1) X
end

theorem opt.imp {α : Type} {o : Option α} {P P' : α → Prop} (h : opt o P) (f : ∀ a, P a → P' a) : opt o P' := by
  cases o with
  | none => exact h
  | some a => exact f a h
theorem mrgAt.imp {l : Nat} {r : RV} {μ : Mu} {k k' : Mu → Prop} (h : mrgAt l r μ k) (f : ∀ m, k m → k' m) : mrgAt l r μ k' := by
  refine ⟨h.1, opt.imp h.2 fun d h => opt.imp h fun o h => ?_⟩
  revert h
  split
  · exact fun h => ⟨h.1, f _ h.2⟩
  · exact fun h => h
theorem compL.imp {tg : D → Rho → Option Rho} {ts : Rho → Mu → QB → Prop} {el : Rho → Mu → QV → Prop} {ρ : Rho}
    (ht : ∀ ρ μ (Q Q' : QB), ts ρ μ Q → (∀ b m, Q b m → Q' b m) → ts ρ μ Q') (he : ∀ ρ μ (Q Q' : QV), el ρ μ Q → (∀ b m, Q b m → Q' b m) → el ρ μ Q') :
    ∀ (ds : List D) (μ : Mu) (Q Q' : QD), compL tg ts el ρ ds μ Q → (∀ b m, Q b m → Q' b m) → compL tg ts el ρ ds μ Q'
  | [], μ, Q, Q', h, f => f _ _ h
  | d :: ds, μ, Q, Q', h, f => opt.imp h fun ρ' h => ht _ _ _ _ h fun b m h => by
      split at h
      · rename_i c; rw [if_pos c]; exact he _ _ _ _ h fun r m h => opt.imp h fun p h => compL.imp ht he ds _ _ _ h fun es m h => f _ _ h
      · rename_i c; rw [if_neg c]; exact compL.imp ht he ds _ _ _ h f
theorem compV.imp {ck : Mu → Prop} {tg : D → Rho → Option Rho} {ts : Rho → Mu → QB → Prop} {el : Rho → Mu → QV → Prop} {ρ : Rho}
    (ht : ∀ ρ μ (Q Q' : QB), ts ρ μ Q → (∀ b m, Q b m → Q' b m) → ts ρ μ Q') (he : ∀ ρ μ (Q Q' : QV), el ρ μ Q → (∀ b m, Q b m → Q' b m) → el ρ μ Q') :
    ∀ (ds : List D) (μ : Mu) (Q Q' : QD), compV ck tg ts el ρ ds μ Q → (∀ b m, Q b m → Q' b m) → compV ck tg ts el ρ ds μ Q'
  | [], μ, Q, Q', h, f => ⟨h.1, f _ _ h.2⟩
  | d :: ds, μ, Q, Q', h, f => ⟨h.1, opt.imp h.2 fun ρ' h => ht _ _ _ _ h fun b m h => by
      split at h
      · rename_i c; rw [if_pos c]; exact he _ _ _ _ h fun r m h => opt.imp h fun p h => compV.imp ht he ds _ _ _ h fun es m h => f _ _ h
      · rename_i c; rw [if_neg c]; exact compV.imp ht he ds _ _ _ h f⟩
theorem compL2.imp {tg : D → Rho → Option Rho} {ts : Rho → Mu → QB → Prop} {it2 : Rho → Mu → QD → Prop} {in2 : Rho → List D → Mu → QD → Prop} {ρ : Rho}
    (ht : ∀ ρ μ (Q Q' : QB), ts ρ μ Q → (∀ b m, Q b m → Q' b m) → ts ρ μ Q') (hi : ∀ ρ μ (Q Q' : QD), it2 ρ μ Q → (∀ b m, Q b m → Q' b m) → it2 ρ μ Q') (hn : ∀ ρ ds μ (Q Q' : QD), in2 ρ ds μ Q → (∀ b m, Q b m → Q' b m) → in2 ρ ds μ Q') :
    ∀ (ds : List D) (μ : Mu) (Q Q' : QD), compL2 tg ts it2 in2 ρ ds μ Q → (∀ b m, Q b m → Q' b m) → compL2 tg ts it2 in2 ρ ds μ Q'
  | [], μ, Q, Q', h, f => f _ _ h
  | d :: ds, μ, Q, Q', h, f => opt.imp h fun ρ' h => ht _ _ _ _ h fun b m h => by
      split at h
      · rename_i c; rw [if_pos c]; exact hi _ _ _ _ h fun ds2 m h => ⟨h.1, hn _ _ _ _ _ h.2 fun es m h => compL2.imp ht hi hn ds _ _ _ h fun es m h => f _ _ h⟩
      · rename_i c; rw [if_neg c]; exact compL2.imp ht hi hn ds _ _ _ h f
theorem compK.imp {tg : D → Rho → Option Rho} {ts : Rho → Mu → QB → Prop} {ek ev : Rho → Mu → QV → Prop} {ρ : Rho} {l : Nat}
    (ht : ∀ ρ μ (Q Q' : QB), ts ρ μ Q → (∀ b m, Q b m → Q' b m) → ts ρ μ Q') (hk : ∀ ρ μ (Q Q' : QV), ek ρ μ Q → (∀ b m, Q b m → Q' b m) → ek ρ μ Q') (hv : ∀ ρ μ (Q Q' : QV), ev ρ μ Q → (∀ b m, Q b m → Q' b m) → ev ρ μ Q') :
    ∀ (ds : List D) (μ : Mu) (Q Q' : Mu → Prop), compK tg ts ek ev ρ l ds μ Q → (∀ m, Q m → Q' m) → compK tg ts ek ev ρ l ds μ Q'
  | [], μ, Q, Q', h, f => f _ h
  | d :: ds, μ, Q, Q', h, f => opt.imp h fun ρ' h => ht _ _ _ _ h fun b m h => by
      revert h; split
      · refine fun h => hk _ _ _ _ h fun rk m h => opt.imp h fun _ h => opt.imp h fun _ h => hv _ _ _ _ h fun rv m h => opt.imp h fun p h => opt.imp h fun o h => ?_
        revert h; split
        · exact fun h => ⟨h.1, compK.imp ht hk hv ds _ _ _ h.2 f⟩
        · exact fun h => h
      · exact fun h => compK.imp ht hk hv ds _ _ _ h f
theorem iteImp {c : Prop} [Decidable c] {a b a' b' : Prop} (h : if c then a else b) (f : a → a') (g : b → b') : if c then a' else b' := by
  split at h
  · rename_i c; rw [if_pos c]; exact f h
  · rename_i c; rw [if_neg c]; exact g h
mutual
theorem wpE.imp : ∀ (e : E) {ρ : Rho} {μ : Mu} {Q Q' : QV} {X X' : QX}, wpE e ρ μ Q X → (∀ r m, Q r m → Q' r m) → (∀ x m, X x m → X' x m) → wpE e ρ μ Q' X'
  | .var i, _, _, _, _, _, _, h, f, _ => opt.imp h fun _ h => opt.imp h fun _ h => f _ _ h
  | .cst d, _, _, _, _, _, _, h, f, _ => f _ _ h
  | .glb _ d, _, _, _, _, _, _, h, f, _ => f _ _ h
  | .bin o a b, _, _, _, _, _, _, h, f, g => wpE.imp a h (fun _ _ h => wpE.imp b h (fun _ _ h => opt.imp h fun _ h => opt.imp h fun _ h => opt.imp h fun _ h => f _ _ h) g) g
  | .cmp o a b, _, _, _, _, _, _, h, f, g => wpE.imp a h (fun _ _ h => wpE.imp b h (fun _ _ h => opt.imp h fun _ h => opt.imp h fun _ h => opt.imp h fun _ h => f _ _ h) g) g
  | .chn o o' a b c, _, _, _, _, _, _, h, f, g => wpE.imp a h (fun _ _ h => wpE.imp b h (fun _ _ h => opt.imp h fun _ h => opt.imp h fun _ h => opt.imp h fun _ h =>
      iteImp h (fun h => wpE.imp c h (fun _ _ h => opt.imp h fun _ h => opt.imp h fun _ h => opt.imp h fun _ h => f _ _ h) g) fun h => f _ _ h) g) g
  | .and a b, _, _, _, _, _, _, h, f, g => wpE.imp a h (fun r _ h => by
      revert h; split
      · exact fun h => wpE.imp b h f g
      · exact fun h => f _ _ h
      · exact fun h => h) g
  | .or a b, _, _, _, _, _, _, h, f, g => wpE.imp a h (fun r _ h => by
      revert h; split
      · exact fun h => f _ _ h
      · exact fun h => wpE.imp b h f g
      · exact fun h => h) g
  | .one a, _, _, _, _, _, _, h, f, g => wpE.imp a h f g
  | .not a, _, _, _, _, _, _, h, f, g => wpE.imp a h (fun r _ h => by
      revert h; split
      · exact fun h => f _ _ h
      · exact fun h => h) g
  | .ife c a b, _, _, _, _, _, _, h, f, g => wpT.imp c h (fun _ _ h => iteImp h (fun h => wpE.imp a h f g) fun h => wpE.imp b h f g) g
  | .ix a b, _, _, _, _, _, _, h, f, g => wpE.imp a h (fun _ _ h => wpE.imp b h (fun _ _ h => opt.imp h fun _ h => opt.imp h fun _ h => opt.imp h fun _ h => f _ _ h) g) g
  | .sl a lo hi, _, _, _, _, _, _, h, f, g => wpE.imp a h (fun _ _ h => wpO.imp lo h (fun _ _ h => wpO.imp hi h (fun _ _ h => opt.imp h fun d h => by
      revert h; split
      · exact fun h => f _ _ h
      · exact fun h => ⟨h.1, f _ _ h.2⟩
      · exact fun h => f _ _ h
      · exact fun h => h) g) g) g
  | .rev a, _, _, _, _, _, _, h, f, g => wpE.imp a h (fun _ _ h => opt.imp h fun d h => by
      revert h; split
      · exact fun h => f _ _ h
      · exact fun h => h) g
  | .fld a c s, _, _, _, _, _, _, h, f, g => wpE.imp a h (fun r _ h => by
      revert h; split
      · exact fun h => ⟨h.1, opt.imp h.2 fun _ h => f _ _ h⟩
      · refine fun h => opt.imp h fun o h => ?_
        revert h; split
        · exact fun h => ⟨h.1, opt.imp h.2 fun _ h => f _ _ h⟩
        · exact fun h => ⟨h.1, opt.imp h.2 fun _ h => f _ _ h⟩
        · exact fun h => h
      · exact fun h => h) g
  | .xfld a s _, _, _, _, _, _, _, h, f, g => wpE.imp a h (fun r _ h => by
      revert h; split
      · exact fun h => ⟨h.1, opt.imp h.2 fun _ h => f _ _ h⟩
      · exact fun h => h) g
  | .xisi a _ _, _, _, _, _, _, _, h, f, g => wpE.imp a h (fun r _ h => by
      revert h; split
      · exact fun h => opt.imp h fun _ h => f _ _ h
      · exact fun h => h) g
  | .lenO a c S, _, _, _, _, _, _, h, f, g => wpE.imp a h (fun _ _ h => ⟨h.1, S.mono _ _ _ _ _ _ h.2 (fun r _ h => by
      revert h; split
      · exact fun h => ⟨h.1, h.2.1, f _ _ h.2.2⟩
      · exact fun h => h) g⟩) g
  | .bi b as, _, _, _, _, _, _, h, f, g => wpA.imp as h (fun r _ h => opt.imp h fun ds h => by
      revert h; split
      · exact fun h => f _ _ h
      · exact fun h => opt.imp h fun _ h => f _ _ h) g
  | .isi a t, _, _, _, _, _, _, h, f, g => wpE.imp a h (fun _ _ h => opt.imp h fun d h => opt.imp h fun _ h => f _ _ h) g
  | .tup as, _, _, _, _, _, _, h, f, g => wpA.imp as h (fun _ _ h => opt.imp h fun d h => ⟨h.1, f _ _ h.2⟩) g
  | .lst as, _, _, _, _, _, _, h, f, g => wpA.imp as h (fun _ _ h => opt.imp h fun d h => ⟨h.1, f _ _ h.2⟩) g
  | .lc el t it ifs, _, _, _, _, _, _, h, f, g => wpI.imp it h (fun ds _ h => compL.imp (ts := fun ρ' μ' Q' => wpT ifs ρ' μ' Q' fun _ _ => False) (el := fun ρ' μ' Q' => wpE el ρ' μ' Q' fun _ _ => False) (fun _ _ _ _ h k => wpT.imp ifs h k fun _ _ z => z) (fun _ _ _ _ h k => wpE.imp el h k fun _ _ z => z) ds _ _ _ h fun es m h => f (.dat (.lst es)) m h) g
  | .call _ S as, _, _, _, _, _, _, h, f, g => wpA.imp as h (fun _ _ h => S.mono _ _ _ _ _ _ h f g) g
  | .meth a c _ S as, _, _, _, _, _, _, h, f, g => wpE.imp a h (fun _ _ h => ⟨h.1, wpA.imp as h.2 (fun _ _ h => S.mono _ _ _ _ _ _ h f g) g⟩) g
  | .app a e, _, _, _, _, _, _, h, f, g => wpE.imp a h (fun r _ h => by
      revert h; split
      · refine fun h => ⟨h.1, wpE.imp e h.2 (fun r1 m1 h => opt.imp h fun p h => opt.imp h fun o h => ?_) g⟩
        revert h; split
        · exact fun h => ⟨h.1, f _ _ h.2⟩
        · exact fun h => h
      · exact fun h => h) g
  | .popat a e, _, _, _, _, _, _, h, f, g => wpE.imp a h (fun r _ h => by
      revert h; split
      · refine fun h => ⟨h.1, wpE.imp e h.2 (fun r1 m1 h => ?_) g⟩
        revert h; split
        · refine fun h => opt.imp h fun o h => ?_
          revert h; split
          · exact fun h => ⟨h.1, h.2.1, opt.imp h.2.2 fun _ h => f _ _ h⟩
          · exact fun h => h
        · exact fun h => h
      · exact fun h => h) g
  | .lstO as, _, _, _, _, _, _, h, f, g => wpA.imp as h (fun _ _ h => opt.imp h fun d h => ⟨h.1, f _ _ h.2⟩) g
  | .listO as, _, _, _, _, _, _, h, f, g => wpA.imp as h (fun _ _ h => opt.imp h fun d h => opt.imp h fun _ h => f _ _ h) g
  | .lcO el t it ifs, _, _, _, _, _, _, h, f, g => wpI.imp it h (fun ds _ h => compL.imp (ts := fun ρ' μ' Q' => wpT ifs ρ' μ' Q' fun _ _ => False) (el := fun ρ' μ' Q' => wpE el ρ' μ' Q' fun _ _ => False) (fun _ _ _ _ h k => wpT.imp ifs h k fun _ _ z => z) (fun _ _ _ _ h k => wpE.imp el h k fun _ _ z => z) ds _ _ _ h fun es m h => f (.loc m.length) (m ++ [.lst es]) h) g
  | .bad, _, _, _, _, _, _, h, _, _ => h
  | .dic0, _, _, _, _, _, _, h, f, _ => f _ _ h
  | .dget a k d, _, _, _, _, _, _, h, f, g => wpE.imp a h (fun _ _ h => ⟨h.1, wpE.imp k h.2 (fun _ _ h => wpE.imp d h (fun _ _ h => opt.imp h fun _ h => opt.imp h fun _ h => by
      revert h; split
      · refine fun h => opt.imp h fun _ h => ?_
        revert h; split
        · exact fun h => f _ _ h
        · exact fun h => f _ _ h
      · exact fun h => h) g) g⟩) g
  | .dictO a, _, _, _, _, _, _, h, f, g => wpE.imp a h (fun _ _ h => opt.imp h fun _ h => by
      revert h; split
      · exact fun h => f _ _ h
      · exact fun h => h) g
  | .dcO ek ev t it ifs, ρ, _, Q, Q', X, X', h, f, g => wpI.imp it h (fun ds μ1 h => compK.imp (ts := fun ρ' μ' Q' => wpT ifs ρ' μ' Q' fun _ _ => False) (ek := fun ρ' μ' Q' => wpE ek ρ' μ' Q' fun _ _ => False) (ev := fun ρ' μ' Q' => wpE ev ρ' μ' Q' fun _ _ => False) (fun ρ μ Q Q' h f => wpT.imp ifs h f fun _ _ h => h) (fun ρ μ Q Q' h f => wpE.imp ek h f fun _ _ h => h) (fun ρ μ Q Q' h f => wpE.imp ev h f fun _ _ h => h) ds _ (fun μ2 => Q (.loc μ1.length) μ2) _ h fun _ h => f _ _ h) g
  | .ow o a b c S, _, _, _, _, _, _, h, f, g => wpE.imp a h (fun _ _ h => wpE.imp b h (fun _ _ h => ⟨h.1, h.2.1, iteImp h.2.2 (fun h => ⟨h.1, h.2.1, S.mono _ _ _ _ _ _ h.2.2 (fun _ _ h => Oo.back_imp h f) g⟩) fun h => ⟨h.1, h.2.1, S.mono _ _ _ _ _ _ h.2.2 (fun _ _ h => Oo.back_imp h f) g⟩⟩) g) g
  | .callO a c S as, _, _, _, _, _, _, h, f, g => wpE.imp a h (fun _ _ h => ⟨h.1, wpA.imp as h.2 (fun _ _ h => ⟨h.1, S.mono _ _ _ _ _ _ h.2 f g⟩) g⟩) g
  | .sortK a, _, _, _, _, _, _, h, f, g => wpE.imp a h (fun _ _ h => opt.imp h fun _ h => by
      revert h; split
      · exact fun h => ⟨h.1, f _ _ h.2⟩
      · exact fun h => h) g
  | .lcV el t a ifs, _, _, _, _, _, _, h, f, g => wpE.imp a h (fun _ _ h => opt.imp h fun _ h => by
      revert h; split
      · exact fun h => compV.imp (ts := fun ρ' μ' Q' => wpT ifs ρ' μ' Q' fun _ _ => False) (el := fun ρ' μ' Q' => wpE el ρ' μ' Q' fun _ _ => False) (fun _ _ _ _ h k => wpT.imp ifs h k fun _ _ z => z) (fun _ _ _ _ h k => wpE.imp el h k fun _ _ z => z) _ _ _ _ h fun es m h => f (.dat (.lst es)) m h
      · exact fun h => h) g
  | .sorset a, _, _, _, _, _, _, h, f, g => wpE.imp a h (fun _ _ h => opt.imp h fun _ h => opt.imp h fun _ h => ⟨h.1, f _ _ h.2⟩) g
  | .lc2 el t1 i1 c1 t2 i2 c2, _, _, _, _, _, _, h, f, g => wpI.imp i1 h (fun ds _ h => ⟨h.1, compL2.imp (ts := fun ρ' μ' Q' => wpT c1 ρ' μ' Q' fun _ _ => False) (it2 := fun ρ' μ' Q' => wpI i2 ρ' μ' Q' fun _ _ => False) (in2 := fun ρ' ds2 μ' Q' => compL (tgD t2) (fun ρ2 μ' Q' => wpT c2 ρ2 μ' Q' fun _ _ => False) (fun ρ2 μ' Q' => wpE el ρ2 μ' Q' fun _ _ => False) (wipeR ρ' t2.slots) ds2 μ' Q')
      (fun _ _ _ _ h k => wpT.imp c1 h k fun _ _ z => z) (fun _ _ _ _ h k => wpI.imp i2 h k fun _ _ z => z)
      (fun _ ds2 _ _ _ h k => compL.imp (ts := fun ρ' μ' Q' => wpT c2 ρ' μ' Q' fun _ _ => False) (el := fun ρ' μ' Q' => wpE el ρ' μ' Q' fun _ _ => False) (fun _ _ _ _ h k => wpT.imp c2 h k fun _ _ z => z) (fun _ _ _ _ h k => wpE.imp el h k fun _ _ z => z) ds2 _ _ _ h k) ds _ _ _ h.2 fun es m h => f (.dat (.lst es)) m h⟩) g
  | .cnt a b, _, _, _, _, _, _, h, f, g => wpE.imp a h (fun _ _ h => ⟨h.1, wpE.imp b h.2 (fun _ _ h => opt.imp h fun _ h => opt.imp h fun _ h => by
      revert h; split
      · exact fun h => opt.imp h fun _ h => f _ _ h
      · exact fun h => h) g⟩) g
  | .addO a b, _, _, _, _, _, _, h, f, g => wpE.imp a h (fun _ _ h => wpE.imp b h (fun _ _ h => opt.imp h fun _ h => opt.imp h fun _ h => by
      revert h; split
      · exact fun h => ⟨h.1, f _ _ h.2⟩
      · exact fun h => h) g) g
  | .lenset a, _, _, _, _, _, _, h, f, g => wpE.imp a h (fun _ _ h => opt.imp h fun _ h => opt.imp h fun _ h => ⟨h.1, f _ _ h.2⟩) g
  | .ext a e, _, _, _, _, _, _, h, f, g => wpE.imp a h (fun r _ h => by
      revert h; split
      · refine fun h => ⟨h.1, wpE.imp e h.2 (fun r1 m1 h => opt.imp h fun p h => opt.imp h fun ys h => opt.imp h fun o h => ?_) g⟩
        revert h; split
        · exact fun h => ⟨h.1, f _ _ h.2⟩
        · exact fun h => h
      · exact fun h => h) g
  | .insat a i e, _, _, _, _, _, _, h, f, g => wpE.imp a h (fun r _ h => by
      revert h; split
      · refine fun h => ⟨h.1, wpE.imp i h.2 (fun ri mi h => ?_) g⟩
        revert h; split
        · refine fun h => wpE.imp e h (fun r1 m1 h => opt.imp h fun p h => opt.imp h fun o h => ?_) g
          revert h; split
          · exact fun h => ⟨h.1, h.2.1, h.2.2.1, f _ _ h.2.2.2⟩
          · exact fun h => h
        · exact fun h => h
      · exact fun h => h) g
  | .dic1 k v, _, _, _, _, _, _, h, f, g => wpE.imp k h (fun _ _ h => opt.imp h fun _ h => opt.imp h fun _ h => wpE.imp v h (fun _ _ h => opt.imp h fun _ h => ⟨h.1, f _ _ h.2⟩) g) g
  | .tidx a b, _, _, _, _, _, _, h, f, g => wpE.imp a h (fun _ _ h => ⟨h.1, wpE.imp b h.2 (fun _ _ h => opt.imp h fun _ h => opt.imp h fun _ h => by
      revert h; split
      · exact fun h => opt.imp h fun _ h => ⟨h.1, f _ _ h.2⟩
      · exact fun h => h) g⟩) g
  | .callK _ _ _ S as kas, _, _, _, _, _, _, h, f, g => wpA.imp as h (fun _ _ h => wpA.imp kas h (fun _ _ h => opt.imp h fun _ h => S.mono _ _ _ _ _ _ h f g) g) g
  | .lam _ _ hs b, _, _, _, _, _, _, h, f, _ => ⟨h.1, hs.mono _ _ _ _ h.2 f⟩
  | .act i S, _, _, _, _, _, _, h, f, g => ⟨h.1, S.mono _ _ _ _ _ _ h.2 f g⟩
  | .dmrg a b, _, _, _, _, _, _, h, f, g => wpE.imp a h (fun _ _ h => h.imp fun _ h => wpE.imp b h (fun _ _ h => h.imp fun _ h => f _ _ h) g) g
  | .isiO a c, _, _, _, _, _, _, h, f, g => wpE.imp a h (fun _ _ h => h.imp (fun h => ⟨h.1, f _ _ h.2⟩) fun h => opt.imp h fun _ h => ⟨h.1, f _ _ h.2⟩) g
theorem wpO.imp : ∀ (e : Po) {ρ : Rho} {μ : Mu} {Q Q' : Option Int → Mu → Prop} {X X' : QX}, wpO e ρ μ Q X → (∀ r m, Q r m → Q' r m) → (∀ x m, X x m → X' x m) → wpO e ρ μ Q' X'
  | .no, _, _, _, _, _, _, h, f, _ => f _ _ h
  | .at e, _, _, _, _, _, _, h, f, g => wpE.imp e h (fun r _ h => by
      revert h; split
      · exact fun h => f _ _ h
      · exact fun h => h) g
theorem wpA.imp : ∀ (e : As) {ρ : Rho} {μ : Mu} {Q Q' : List RV → Mu → Prop} {X X' : QX}, wpA e ρ μ Q X → (∀ r m, Q r m → Q' r m) → (∀ x m, X x m → X' x m) → wpA e ρ μ Q' X'
  | .nil, _, _, _, _, _, _, h, f, _ => f _ _ h
  | .cons a r, _, _, _, _, _, _, h, f, g => wpE.imp a h (fun _ _ h => opt.imp h fun p h => wpA.imp r h (fun _ _ h => f _ _ h) g) g
  | .ref a r, _, _, _, _, _, _, h, f, g => wpE.imp a h (fun _ _ h => ⟨h.1, wpA.imp r h.2 (fun _ _ h => f _ _ h) g⟩) g
  | .star a r, _, _, _, _, _, _, h, f, g => wpE.imp a h (fun _ _ h => opt.imp h fun d h => by
      revert h; split
      · exact fun h => wpA.imp r h (fun _ _ h => f _ _ h) g
      · exact fun h => wpA.imp r h (fun _ _ h => f _ _ h) g
      · exact fun h => h) g
theorem wpI.imp : ∀ (e : It) {ρ : Rho} {μ : Mu} {Q Q' : QD} {X X' : QX}, wpI e ρ μ Q X → (∀ r m, Q r m → Q' r m) → (∀ x m, X x m → X' x m) → wpI e ρ μ Q' X'
  | .seq a, _, _, _, _, _, _, h, f, g => wpE.imp a h (fun _ _ h => opt.imp h fun p h => opt.imp h fun _ h => f _ _ h) g
  | .rng a, _, _, _, _, _, _, h, f, g => wpE.imp a h (fun _ _ h => by
      revert h; split
      · exact fun h => ⟨h.1, f _ _ h.2⟩
      · exact fun h => h) g
  | .rng2 a b, _, _, _, _, _, _, h, f, g => wpE.imp a h (fun _ _ h => wpE.imp b h (fun _ _ h => by
      revert h; split
      · exact fun h => ⟨h.1, h.2.1, h.2.2.1, f _ _ h.2.2.2⟩
      · exact fun h => h) g) g
  | .enm a, _, _, _, _, _, _, h, f, g => wpE.imp a h (fun _ _ h => opt.imp h fun p h => by
      revert h; split
      · exact fun h => f _ _ h
      · exact fun h => f _ _ h
      · exact fun h => h) g
  | .zip a b, _, _, _, _, _, _, h, f, g => wpE.imp a h (fun _ _ h => opt.imp h fun p h => wpE.imp b h (fun _ _ h => opt.imp h fun q h => by
      revert h; split
      · exact fun h => ⟨h.1, f _ _ h.2⟩
      · exact fun h => h) g) g
theorem wpT.imp : ∀ (e : T) {ρ : Rho} {μ : Mu} {Q Q' : QB} {X X' : QX}, wpT e ρ μ Q X → (∀ r m, Q r m → Q' r m) → (∀ x m, X x m → X' x m) → wpT e ρ μ Q' X'
  | .tt, _, _, _, _, _, _, h, f, _ => f _ _ h
  | .v e, _, _, _, _, _, _, h, f, g => wpE.imp e h (fun _ _ h => opt.imp h fun _ h => opt.imp h fun _ h => f _ _ h) g
  | .and a b, _, _, _, _, _, _, h, f, g => wpT.imp a h (fun _ _ h => iteImp h (fun h => wpT.imp b h f g) fun h => f _ _ h) g
  | .or a b, _, _, _, _, _, _, h, f, g => wpT.imp a h (fun _ _ h => iteImp h (fun h => f _ _ h) fun h => wpT.imp b h f g) g
  | .one a, _, _, _, _, _, _, h, f, g => wpT.imp a h f g
  | .not a, _, _, _, _, _, _, h, f, g => wpT.imp a h (fun _ _ h => f _ _ h) g
end
end DL

namespace DL
open PySem PySem.Spec PyProof.Rows L2

section
variable {K : PySem.W.Frag} {pn : List (Addr × Obj)} {F F' H H' : Hp} {α α' : Al} {μ μ' : Mu} {ρ : Rho} {σ : L2.St} {a p : Addr} {u : HO}

theorem rd_ne {b : Addr} {v : HO} (h : Rd F b v) (n : F a = none) : b ≠ a := by
  rintro rfl
  rcases h with h | ⟨o, h⟩ <;> rw [n] at h <;> cases h
theorem Le.upd_right (l : Le F H) (n : F a = none) : Le F (upd H a u) := by
  refine ⟨fun b v s h => ?_, fun b v s h => ?_⟩
  · have := rd_ne h n
    rcases l.rd b v s h with q | ⟨o, q⟩
    · exact .inl (by rw [upd_ne this]; exact q)
    · exact .inr ⟨o, by rw [upd_ne this]; exact q⟩
  · have : b ≠ a := by rintro rfl; rw [n] at h; cases h
    rw [upd_ne this]; exact l.ex b v s h
theorem Le.upd_self (n : F a = none) : Le F (upd F a u) := Le.refl.upd_right n
/-- the same thing laid on both sides -/
theorem Le.upd_both (l : Le F H) (n : F a = none) (hu : ∀ o w, u ≠ .frz o w) : Le (upd F a u) (upd H a u) := by
  refine ⟨fun b v s h => ?_, fun b v s h => ?_⟩
  · by_cases e : b = a
    · subst e
      rcases h with h | ⟨o, h⟩
      · rw [upd_same] at h; exact .inl (by rw [upd_same]; exact h)
      · rw [upd_same] at h; cases h; exact absurd rfl (hu o v)
    · have h' : Rd F b v := by
        rcases h with h | ⟨o, h⟩
        · rw [upd_ne e] at h; exact .inl h
        · rw [upd_ne e] at h; exact .inr ⟨o, h⟩
      exact (l.upd_right (u := u) n).rd b v s h'
  · by_cases e : b = a
    · subst e; rw [upd_same] at h ⊢; exact h
    · rw [upd_ne e] at h; rw [upd_ne e]; exact l.ex b v s h

theorem ObR.up {o : O} (h : ObR K F H α a o) (g : Go F F' α α') (hF : ∀ v, H a = some v → (∀ x, v ≠ .own x) → F a = none → F' a = none) (hd : ∀ dx, F dx = none → H dx = some (.own a) → F' dx = none ∧ H' dx = some (.own a)) (hH : ∀ v, H a = some v → H' a = some v) : ObR K F' H' α' a o := by
  cases o with
  | lst xs => obtain ⟨n, vs, e, r⟩ := h; exact ⟨hF _ e (fun _ z => nomatch z) n, vs, hH _ e, r.mono g.1⟩
  | dic kvs => obtain ⟨n, vs, e, r⟩ := h; exact ⟨hF _ e (fun _ z => nomatch z) n, vs, hH _ e, r.mono g.1⟩
  | dit kvs => obtain ⟨n, vs, e, r⟩ := h; exact ⟨hF _ e (fun _ z => nomatch z) n, vs, hH _ e, r.mono g.1⟩
  | ins c fs =>
    obtain ⟨n, dx, vs, e, e2, n2, r⟩ := h
    obtain ⟨q1, q2⟩ := hd dx n2 e2
    exact ⟨hF _ e (fun _ z => nomatch z) n, dx, vs, hH _ e, q2, q1, r.mono g.1⟩
  | frz d => exact R.mono g.1 h
  | tab q =>
    obtain ⟨n, ps, e, t, f⟩ := h
    exact ⟨hF _ e (fun _ z => nomatch z) n, ps, hH _ e, t, fun pos cv hc => let ⟨c, e1, e2⟩ := f pos cv hc; ⟨c, e1, g.1.ex _ _ rfl e2⟩⟩
theorem get_mem {l : Nat} (h : α.as[l]? = some a) : a ∈ α.as := List.mem_of_getElem? h
theorem Hold.ne (h : Hold K F H α μ) {l l' : Nat} {b : Addr} (e : α.as[l]? = some a) (e' : α.as[l']? = some b) (n : l ≠ l') : a ≠ b := by
  rintro rfl
  obtain ⟨h1, e1⟩ := List.getElem?_eq_some_iff.mp e
  obtain ⟨h2, e2⟩ := List.getElem?_eq_some_iff.mp e'
  exact n ((List.getElem_inj h.nd).mp (e1.trans e2.symm))
/-- a new thing, frozen -/
theorem Hold.new (h : Hold K F H α μ) (n : H p = none) (hu : ∀ o w, u ≠ .frz o w) : Hold K (upd F p u) (upd H p u) α μ ∧ Go F (upd F p u) α α := by
  have nF := h.fr p n
  have g : Go F (upd F p u) α α := ⟨Le.upd_self nF, rfl, [], by simp⟩
  have np : ∀ {b : Addr} {v : HO}, H b = some v → b ≠ p := by rintro b v e rfl; rw [n] at e; cases e
  refine ⟨⟨h.le.upd_both nF hu, fun b e => ?_, h.len, h.nd, fun b hb e => ?_, fun l b o e1 e2 => ?_, fun b vs e => ?_⟩, g⟩
  · by_cases q : b = p
    · subst q; rw [upd_same] at e; cases e
    · rw [upd_ne q] at e ⊢; exact h.fr b e
  · by_cases q : b = p
    · subst q; rw [upd_same] at e; cases e
    · rw [upd_ne q] at e; exact h.al b hb e
  · have q : b ≠ p := by rintro rfl; exact h.al _ (get_mem e1) n
    exact (h.ob l b o e1 e2).up g (fun _ _ _ z => by rw [upd_ne q]; exact z) (fun dx z e => ⟨by rw [upd_ne (np e)]; exact z, by rw [upd_ne (np e)]; exact e⟩) fun v e => by rw [upd_ne q]; exact e
  · obtain ⟨e1, e2, e3⟩ := h.hd b vs e
    exact ⟨by rw [upd_ne (np e1)]; exact e1, by rw [upd_ne (np e1)]; exact e2, e3⟩
/-- a new thing that is not told of -/
theorem Hold.add (h : Hold K F H α μ) (n : H p = none) : Hold K F (upd H p u) α μ := by
  have nF := h.fr p n
  have np : ∀ {b : Addr} {v : HO}, H b = some v → b ≠ p := by rintro b v e rfl; rw [n] at e; cases e
  refine ⟨h.le.upd_right nF, fun b e => ?_, h.len, h.nd, fun b hb e => ?_, fun l b o e1 e2 => ?_, fun b vs e => ?_⟩
  · by_cases q : b = p
    · subst q; rw [upd_same] at e; cases e
    · rw [upd_ne q] at e; exact h.fr b e
  · by_cases q : b = p
    · subst q; rw [upd_same] at e; cases e
    · rw [upd_ne q] at e; exact h.al b hb e
  · have q : b ≠ p := by rintro rfl; exact h.al _ (get_mem e1) n
    exact (h.ob l b o e1 e2).up .refl (fun _ _ _ z => z) (fun dx z e => ⟨z, by rw [upd_ne (np e)]; exact e⟩) fun v e => by rw [upd_ne q]; exact e
  · obtain ⟨e1, e2, e3⟩ := h.hd b vs e
    exact ⟨by rw [upd_ne (np e1)]; exact e1, e2, e3⟩
/-- what stands at p, not told of, becomes the store's -/
theorem Hold.own {o : O} (h : Hold K F H α μ) (n : H p ≠ none) (np : p ∉ α.as) (nh : α.hid p = none) (ho : ObR K F H α p o) : Hold K F H ⟨α.as ++ [p], α.hid⟩ (μ ++ [o]) ∧ Go F F α ⟨α.as ++ [p], α.hid⟩ := by
  have g : Go F F α ⟨α.as ++ [p], α.hid⟩ := ⟨.refl, rfl, [p], rfl⟩
  refine ⟨⟨h.le, h.fr, by simp [h.len], ?_, fun b hb => ?_, fun l b o' e1 e2 => ?_, fun b vs e => ?_⟩, g⟩
  · show (α.as ++ [p]).Nodup
    rw [List.nodup_append]
    exact ⟨h.nd, by simp, by rintro x hx y hy; simp at hy; subst hy; rintro rfl; exact np hx⟩
  · rcases List.mem_append.mp hb with q | q
    · exact h.al b q
    · simp at q; subst q; exact n
  · have e1 : (α.as ++ [p])[l]? = some b := e1
    by_cases hl : l < α.as.length
    · rw [List.getElem?_append_left hl] at e1
      rw [List.getElem?_append_left (by rw [← h.len]; exact hl)] at e2
      exact (h.ob l b o' e1 e2).up g (fun _ _ _ z => z) (fun _ z e => ⟨z, e⟩) fun _ e => e
    · have hl' : α.as.length ≤ l := Nat.le_of_not_lt hl
      rw [List.getElem?_append_right hl'] at e1
      rw [List.getElem?_append_right (by rw [← h.len]; exact hl')] at e2
      have : l - α.as.length = 0 := by
        cases q : l - α.as.length with
        | zero => rfl
        | succ m => rw [q] at e1; simp at e1
      rw [this] at e1
      rw [← h.len, this] at e2
      simp at e1 e2
      subst e1 e2
      exact ho.up g (fun _ _ _ z => z) (fun _ z e => ⟨z, e⟩) fun _ e => e
  · obtain ⟨e1, e2, e3⟩ := h.hd b vs e
    refine ⟨e1, e2, fun z => ?_⟩
    rcases List.mem_append.mp z with q | q
    · exact e3 q
    · simp at q; subst q; rw [nh] at e; cases e
/-- a written thing of the store -/
theorem Hold.write {l : Nat} {o : O} {v : HO} (h : Hold K F H α μ) (e : α.as[l]? = some a) (n : F a = none) (ha : H a = some v) (hv : ∀ x, v ≠ .own x) (ho : ObR K F (upd H a u) α a o) : Hold K F (upd H a u) α (μ.set l o) := by
  refine ⟨h.le.upd_right n, fun b q => ?_, by simp [h.len], h.nd, fun b hb q => ?_, fun l' b o' e1 e2 => ?_, fun b vs q => ?_⟩
  · by_cases z : b = a
    · subst z; rw [upd_same] at q; cases q
    · rw [upd_ne z] at q; exact h.fr b q
  · by_cases z : b = a
    · subst z; rw [upd_same] at q; cases q
    · rw [upd_ne z] at q; exact h.al b hb q
  · by_cases hl : l' = l
    · subst hl
      rw [e] at e1; cases e1
      rw [List.getElem?_set] at e2
      split at e2
      · split at e2
        · cases e2; exact ho
        · cases e2
      · rename_i z; exact absurd rfl z
    · rw [List.getElem?_set_ne (Ne.symm hl)] at e2
      have z := h.ne e1 e hl
      refine (h.ob l' b o' e1 e2).up .refl (fun _ _ _ z => z) (fun dx q e' => ⟨q, ?_⟩) fun v e' => by rw [upd_ne z]; exact e'
      rw [upd_ne]
      · exact e'
      · rintro rfl; rw [ha] at e'; cases e'; exact hv _ rfl
  · obtain ⟨q1, q2, q3⟩ := h.hd b vs q
    exact ⟨by rw [upd_ne (show b ≠ a from fun z => q3 (by rw [z]; exact get_mem e))]; exact q1, q2, q3⟩
/-- a thing of the store, seen as data -/
theorem ObR.see {o : O} {d : D} (le : Le F H) (h : ObR K F H α a o) (e : o.toD = some d) : R K H (.ref a) d := by
  cases o with
  | lst xs => cases e; obtain ⟨n, vs, q, r⟩ := h; exact .lst (.inl q) (r.mono le)
  | dic kvs => cases e; obtain ⟨n, vs, q, r⟩ := h; exact .dK (.inl q) (r.mono le)
  | dit kvs => cases e; obtain ⟨n, vs, q, r⟩ := h; exact .dT (.inl q) (r.mono le)
  | ins c fs =>
    obtain ⟨n, dx, vs, q, q2, n2, r⟩ := h
    cases e
    exact .obj q q2 (r.mono le)
  | frz d => cases e; exact R.mono le h
  | tab q => cases e
theorem Hold.see (h : Hold K F H α μ) {rv : RV} {v : V} {d : D} (r : RvR K pn F α rv v) (e : vw μ rv = some d) : R K H v d := by
  cases rv with
  | dat d' => cases e; exact R.mono h.le r
  | loc l =>
    obtain ⟨a, e1, rfl⟩ := r
    dsimp only [vw] at e
    cases q : μ[l]? with
    | none => rw [q] at e; cases e
    | some o => rw [q] at e; exact (h.ob l a o e1 q).see h.le e
  | exc c fs => cases e
  | since _ _ _ => cases e
/-- a list's items -/
theorem Hold.items (h : Hold K F H α μ) {rv : RV} {v : V} {xs : List D} (r : RvR K pn F α rv v) (e : vw μ rv = some (.lst xs)) : ∃ a vs, v = .ref a ∧ Rd H a (.lst vs) ∧ RL K F vs xs := by
  cases rv with
  | dat d' => cases e; cases r with | lst s r => exact ⟨_, _, rfl, h.le.rd _ _ rfl s, r⟩
  | loc l =>
    obtain ⟨a, e1, rfl⟩ := r
    dsimp only [vw] at e
    cases q : μ[l]? with
    | none => rw [q] at e; cases e
    | some o =>
      rw [q] at e
      have z := h.ob l a o e1 q
      cases o with
      | lst ys => cases e; obtain ⟨n, vs, q, r⟩ := z; exact ⟨a, vs, rfl, .inl q, r⟩
      | frz d => cases e; cases z with | lst s r => exact ⟨_, _, rfl, h.le.rd _ _ rfl s, r⟩
      | dic kvs => cases e
      | dit kvs => cases e
      | ins c fs => cases e
      | tab q => cases e
  | exc c fs => cases e
  | since _ _ _ => cases e
theorem Hold.itemsT (h : Hold K F H α μ) {rv : RV} {v : V} {xs : List D} (r : RvR K pn F α rv v) (e : vw μ rv = some (.tup xs)) : ∃ a vs, v = .ref a ∧ SqT K H a vs ∧ SqT K F a vs ∧ RL K F vs xs := by
  cases rv with
  | dat d' => cases e; cases r with | tup s r => exact ⟨_, _, rfl, h.le.sqT s, s, r⟩
  | loc l =>
    obtain ⟨a, e1, rfl⟩ := r
    dsimp only [vw] at e
    cases q : μ[l]? with
    | none => rw [q] at e; cases e
    | some o =>
      rw [q] at e
      have z := h.ob l a o e1 q
      cases o with
      | lst ys => cases e
      | frz d => cases e; cases z with | tup s r => exact ⟨_, _, rfl, h.le.sqT s, s, r⟩
      | dic kvs => cases e
      | dit kvs => cases e
      | ins c fs => cases e
      | tab q => cases e
  | exc c fs => cases e
  | since _ _ _ => cases e
theorem Le.upd_left (l : Le F H) (n : F a = none) (e : H a = some u) (hu : ∀ o w, u ≠ .frz o w) : Le (upd F a u) H := by
  have z := l.upd_both (u := u) n hu
  have : upd H a u = H := by
    funext b
    by_cases q : b = a
    · subst q; rw [upd_same, e]
    · rw [upd_ne q]
  rw [this] at z
  exact z
theorem Hold.freeze1 (h : Hold K F H α μ) {l : Nat} {d : D} (e1 : α.as[l]? = some a) (F' : Hp) (l1 : Le F F') (l2 : Le F' H) (hf : ∀ b, H b = none → F' b = none) (hv : ∀ x, H a ≠ some (.own x))
    (hb : ∀ b, b ≠ a → F b = none → H b ≠ some (.own a) → F' b = none) (hr : R K F' (.ref a) d) : Go F F' α α ∧ Hold K F' H α (μ.set l (.frz d)) := by
  have g : Go F F' α α := ⟨l1, rfl, [], by simp⟩
  refine ⟨g, ⟨l2, hf, by simp [h.len], h.nd, h.al, fun l' b o' e1' e2' => ?_, fun b vs q => ?_⟩⟩
  rotate_left
  · obtain ⟨q1, q2, q3⟩ := h.hd b vs q
    exact ⟨q1, hb b (fun z => q3 (by rw [z]; exact get_mem e1)) q2 (fun z => by rw [q1] at z; cases z), q3⟩
  by_cases hl : l' = l
  · subst hl
    rw [e1] at e1'; cases e1'
    rw [List.getElem?_set] at e2'
    split at e2'
    · split at e2'
      · cases e2'; exact hr
      · cases e2'
    · rename_i z; exact absurd rfl z
  · rw [List.getElem?_set_ne (Ne.symm hl)] at e2'
    have ne := h.ne e1' e1 hl
    refine (h.ob l' b o' e1' e2').up g (fun v hv' nv n => hb b ne n fun z => ?_) (fun dx n hx => ⟨hb dx (fun z => ?_) n fun z => ?_, hx⟩) fun v e => e
    · rw [z] at hv'; cases hv'; exact nv _ rfl
    · subst z; exact hv _ hx
    · rw [z] at hx; cases hx; exact ne rfl
/-- what is frozen -/
theorem Hold.freeze (h : Hold K F H α μ) {rv : RV} {v : V} {d : D} {μ' : Mu} (r : RvR K pn F α rv v) (e : fz μ rv = some (d, μ')) : ∃ F', Go F F' α α ∧ Hold K F' H α μ' ∧ R K F' v d := by
  cases rv with
  | dat d' => cases e; exact ⟨F, .refl, h, r⟩
  | exc c fs => cases e
  | since _ _ _ => cases e
  | loc l =>
    obtain ⟨a, e1, rfl⟩ := r
    have e : (μ[l]?.bind O.toD).map (fun d => (d, μ.set l (.frz d))) = some (d, μ') := e
    cases q : μ[l]? with
    | none => rw [q] at e; cases e
    | some o =>
      rw [q] at e
      simp only [Option.bind_some, Option.map_eq_some_iff, Prod.mk.injEq] at e
      obtain ⟨d', e3, rfl, rfl⟩ := e
      have z := h.ob l a o e1 q
      cases o with
      | lst xs =>
        cases e3
        obtain ⟨n, vs, q, r⟩ := z
        have l1 : Le F (upd F a (.lst vs)) := Le.upd_self n
        have hr : R K (upd F a (.lst vs)) (.ref a) (.lst xs) := .lst (.inl upd_same) (r.mono l1)
        obtain ⟨g, h'⟩ := h.freeze1 e1 _ l1 (h.le.upd_left n q fun _ _ z => nomatch z) (fun b hb => by rw [upd_ne (by rintro rfl; rw [q] at hb; cases hb)]; exact h.fr b hb) (fun x hx => by rw [q] at hx; cases hx) (fun b nb hb _ => by rw [upd_ne nb]; exact hb) hr
        exact ⟨_, g, h', hr⟩
      | dic kvs =>
        cases e3
        obtain ⟨n, vs, q, r⟩ := z
        have l1 : Le F (upd F a (.dK vs)) := Le.upd_self n
        have hr : R K (upd F a (.dK vs)) (.ref a) (.dic kvs) := .dK (.inl upd_same) (r.mono l1)
        obtain ⟨g, h'⟩ := h.freeze1 e1 _ l1 (h.le.upd_left n q fun _ _ z => nomatch z) (fun b hb => by rw [upd_ne (by rintro rfl; rw [q] at hb; cases hb)]; exact h.fr b hb) (fun x hx => by rw [q] at hx; cases hx) (fun b nb hb _ => by rw [upd_ne nb]; exact hb) hr
        exact ⟨_, g, h', hr⟩
      | dit kvs =>
        cases e3
        obtain ⟨n, vs, q, r⟩ := z
        have l1 : Le F (upd F a (.dT vs)) := Le.upd_self n
        have hr : R K (upd F a (.dT vs)) (.ref a) (.dit kvs) := .dT (.inl upd_same) (r.mono l1)
        obtain ⟨g, h'⟩ := h.freeze1 e1 _ l1 (h.le.upd_left n q fun _ _ z => nomatch z) (fun b hb => by rw [upd_ne (by rintro rfl; rw [q] at hb; cases hb)]; exact h.fr b hb) (fun x hx => by rw [q] at hx; cases hx) (fun b nb hb _ => by rw [upd_ne nb]; exact hb) hr
        exact ⟨_, g, h', hr⟩
      | ins c fs =>
        obtain ⟨n, dx, vs, q, q2, n2, r⟩ := z
        cases e3
        have na : a ≠ dx := by rintro rfl; rw [q] at q2; cases q2
        have n3 : (upd F dx (.own a)) a = none := by rw [upd_ne na]; exact n
        have l0 : Le F (upd F dx (.own a)) := Le.upd_self n2
        have l1 : Le F (upd (upd F dx (.own a)) a (.ins (He.ga K c) dx vs)) := l0.trans (Le.upd_self n3)
        have hr : R K (upd (upd F dx (.own a)) a (.ins (He.ga K c) dx vs)) (.ref a) (.obj c fs) := .obj upd_same (by rw [upd_ne na.symm, upd_same]) (r.mono l1)
        obtain ⟨g, h'⟩ := h.freeze1 e1 _ l1 ((h.le.upd_left n2 q2 fun _ _ z => nomatch z).upd_left n3 q fun _ _ z => nomatch z) (fun b hb => by
          rw [upd_ne (by rintro rfl; rw [q] at hb; cases hb), upd_ne (by rintro rfl; rw [q2] at hb; cases hb)]; exact h.fr b hb) (fun x hx => by rw [q] at hx; cases hx) (fun b nb hb ho => by
          rw [upd_ne nb, upd_ne (by rintro rfl; exact ho q2)]; exact hb) hr
        exact ⟨_, g, h', hr⟩
      | tab q => cases e3
      | frz d =>
        cases e3
        refine ⟨F, .refl, ?_, z⟩
        have : μ.set l (.frz d') = μ := by
          apply List.ext_getElem?
          intro i
          rw [List.getElem?_set]
          split
          · rename_i z; subst z
            split
            · exact q.symm
            · rename_i z
              rw [List.getElem?_eq_none (by omega)]
          · rfl
        rw [this]
        exact h
theorem Hold.dk (h : Hold K F H α μ) {rv : RV} {v : V} {kvs : List (Key × D)} (r : RvR K pn F α rv v) (e : vw μ rv = some (.dic kvs)) : ∃ a vs, v = .ref a ∧ Rd H a (.dK vs) ∧ RK K F vs kvs := by
  cases rv with
  | dat d' => cases e; cases r with | dK s r => exact ⟨_, _, rfl, h.le.rd _ _ rfl s, r⟩
  | loc l =>
    obtain ⟨a, e1, rfl⟩ := r
    dsimp only [vw] at e
    cases q : μ[l]? with
    | none => rw [q] at e; cases e
    | some o =>
      rw [q] at e
      have z := h.ob l a o e1 q
      cases o with
      | dic ys => cases e; obtain ⟨n, vs, q, r⟩ := z; exact ⟨a, vs, rfl, .inl q, r⟩
      | frz d => cases e; cases z with | dK s r => exact ⟨_, _, rfl, h.le.rd _ _ rfl s, r⟩
      | lst kvs => cases e
      | dit kvs => cases e
      | ins c fs => cases e
      | tab q => cases e
  | exc c fs => cases e
  | since _ _ _ => cases e
/-- a frozen dict is locked -/
theorem Hold.lock (h : Hold K F H α μ) {d : Addr} {vs : List (Key × V)} (hF : F d = some (.dK vs)) (o : Obj) : Hold K (upd F d (.frz o (.dK vs))) (upd H d (.frz o (.dK vs))) α μ ∧ Go F (upd F d (.frz o (.dK vs))) α α := by
  have hl : Le F (upd F d (.frz o (.dK vs))) := by
    refine ⟨fun b v s q => ?_, fun b v s q => ?_⟩
    · by_cases e : b = d
      · subst e
        rcases q with q | ⟨o', q⟩
        · rw [hF] at q; cases q; exact .inr ⟨o, upd_same⟩
        · rw [hF] at q; cases q
      · rcases q with q | ⟨o', q⟩
        · exact .inl (by rw [upd_ne e]; exact q)
        · exact .inr ⟨o', by rw [upd_ne e]; exact q⟩
    · by_cases e : b = d
      · subst e; rw [hF] at q; cases q; cases s
      · rw [upd_ne e]; exact q
  have hle : Le (upd F d (.frz o (.dK vs))) (upd H d (.frz o (.dK vs))) := by
    refine ⟨fun b v s q => ?_, fun b v s q => ?_⟩
    · by_cases e : b = d
      · subst e
        rcases q with q | ⟨o', q⟩
        · rw [upd_same] at q; cases q; cases s
        · rw [upd_same] at q; cases q; exact .inr ⟨o, upd_same⟩
      · have q' : Rd F b v := by
          rcases q with q | ⟨o', q⟩
          · rw [upd_ne e] at q; exact .inl q
          · rw [upd_ne e] at q; exact .inr ⟨o', q⟩
        rcases h.le.rd b v s q' with z | ⟨o', z⟩
        · exact .inl (by rw [upd_ne e]; exact z)
        · exact .inr ⟨o', by rw [upd_ne e]; exact z⟩
    · by_cases e : b = d
      · subst e; rw [upd_same] at q ⊢; exact q
      · rw [upd_ne e] at q; rw [upd_ne e]; exact h.le.ex b v s q
  have g : Go F (upd F d (.frz o (.dK vs))) α α := ⟨hl, rfl, [], by simp⟩
  have nd : ∀ {b : Addr}, F b = none → b ≠ d := by rintro b e rfl; rw [hF] at e; cases e
  refine ⟨⟨hle, fun b q => ?_, h.len, h.nd, fun b hb q => ?_, fun l b ob e1 e2 => ?_, fun b ws q => ?_⟩, g⟩
  · by_cases e : b = d
    · subst e; rw [upd_same] at q; cases q
    · rw [upd_ne e] at q ⊢; exact h.fr b q
  · by_cases e : b = d
    · subst e; rw [upd_same] at q; cases q
    · rw [upd_ne e] at q; exact h.al b hb q
  · have z := h.ob l b ob e1 e2
    cases ob with
    | frz dd => exact R.mono hl z
    | tab q => exact ObR.up (o := .tab q) z g (fun _ _ _ n => by rw [upd_ne (nd n)]; exact n) (fun dx n e => ⟨by rw [upd_ne (nd n)]; exact n, by rw [upd_ne (nd n)]; exact e⟩) fun v e => by rw [upd_ne (nd z.1)]; exact e
    | lst xs => exact ObR.up (o := .lst xs) z g (fun _ _ _ n => by rw [upd_ne (nd n)]; exact n) (fun dx n e => ⟨by rw [upd_ne (nd n)]; exact n, by rw [upd_ne (nd n)]; exact e⟩) fun v e => by rw [upd_ne (nd z.1)]; exact e
    | dic xs => exact ObR.up (o := .dic xs) z g (fun _ _ _ n => by rw [upd_ne (nd n)]; exact n) (fun dx n e => ⟨by rw [upd_ne (nd n)]; exact n, by rw [upd_ne (nd n)]; exact e⟩) fun v e => by rw [upd_ne (nd z.1)]; exact e
    | dit xs => exact ObR.up (o := .dit xs) z g (fun _ _ _ n => by rw [upd_ne (nd n)]; exact n) (fun dx n e => ⟨by rw [upd_ne (nd n)]; exact n, by rw [upd_ne (nd n)]; exact e⟩) fun v e => by rw [upd_ne (nd z.1)]; exact e
    | ins c fs => exact ObR.up (o := .ins c fs) z g (fun _ _ _ n => by rw [upd_ne (nd n)]; exact n) (fun dx n e => ⟨by rw [upd_ne (nd n)]; exact n, by rw [upd_ne (nd n)]; exact e⟩) fun v e => by rw [upd_ne (nd z.1)]; exact e
  · obtain ⟨q1, q2, q3⟩ := h.hd b ws q
    exact ⟨by rw [upd_ne (nd q2)]; exact q1, by rw [upd_ne (nd q2)]; exact q2, q3⟩
end
end DL

namespace DL
open PySem PySem.Spec PyProof.Rows L2

theorem PE.imp {X : Cx} {e : Expr} {t t' : TE} (h : PE X e t) (f : ∀ σ H Q, t' σ H Q → t σ H Q) : PE X e t' := ⟨fun pins s σ H Q I q => h.run pins s σ H Q I (f σ H Q q)⟩
theorem PT.imp {X : Cx} {e : Expr} {t t' : TT} (h : PT X e t) (f : ∀ σ H Q, t' σ H Q → t σ H Q) : PT X e t' := ⟨fun pins s σ H Q I q => h.run pins s σ H Q I (f σ H Q q)⟩
theorem PA.imp {X : Cx} {e : List Expr} {t t' : TA} (h : PA X e t) (f : ∀ σ H Q, t' σ H Q → t σ H Q) : PA X e t' := ⟨fun pos pins s σ H Q I q => h.run pos pins s σ H Q I (f σ H Q q)⟩
theorem PS.imp {X : Cx} {e : Stmt} {t t' : TS} (h : PS X e t) (f : ∀ D σ H, t' D σ H → t D σ H) : PS X e t' := ⟨fun pins s σ H D I q => h.run pins s σ H D I (f D σ H q)⟩
theorem PSs.imp {X : Cx} {e : List Stmt} {t t' : TS} (h : PSs X e t) (f : ∀ D σ H, t' D σ H → t D σ H) : PSs X e t' := ⟨fun pins s σ H D I q => h.run pins s σ H D I (f D σ H q)⟩
theorem PI.imp {X : Cx} {tg e : Expr} {t t' : TI} (h : PI X tg e t) (f : ∀ σ H R, t' σ H R → t σ H R) : PI X tg e t' := ⟨fun pins s σ H R I q => h.run pins s σ H R I (f σ H R q)⟩

def RvRs (K : PySem.W.Frag) (pn : List (Addr × Obj)) (F : Hp) (α : Al) : List RV → List V → Prop
  | [], [] => True
  | r :: rs, v :: vs => RvR K pn F α r v ∧ RvRs K pn F α rs vs
  | _, _ => False
section
variable (K : PySem.W.Frag) (pn : List (Addr × Obj)) (F : Hp) (α : Al)
def kE (Q : VK) : QV := fun rv μ' => ∀ v F' α' H', Go F F' α α' → Hold K F' H' α' μ' → RvR K pn F' α' rv v → Q v H'
def kB (Q : Bool → Hp → Prop) : QB := fun b μ' => ∀ F' α' H', Go F F' α α' → Hold K F' H' α' μ' → Q b H'
def kI (Q : Option Int → Hp → Prop) : Option Int → Mu → Prop := fun b μ' => ∀ F' α' H', Go F F' α α' → Hold K F' H' α' μ' → Q b H'
def kA (Q : List V → Hp → Prop) : List RV → Mu → Prop := fun rs μ' => ∀ vs F' α' H', Go F F' α α' → Hold K F' H' α' μ' → RvRs K [] F' α' rs vs → Q vs H'
def kX (σ : L2.St) (W : WX) : QX := fun ex μ' => ∀ cls d F' α' H', Go F F' α α' → Hold K F' H' α' μ' → ExR K F' ex cls d → W cls d σ H'
end
section
variable (K : PySem.W.Frag) (pn : List (Addr × Obj)) (W : WX)
def tE (a : E) : TE := fun σ H Q => ∃ F α ρ μ, Hold K F H α μ ∧ Slots K pn F α ρ σ ∧ wpE a ρ μ (kE K pn F α Q) (kX K F α σ W)
def tT (a : T) : TT := fun σ H Q => ∃ F α ρ μ, Hold K F H α μ ∧ Slots K pn F α ρ σ ∧ wpT a ρ μ (kB K F α Q) (kX K F α σ W)
def tP (a : Po) : TO := fun σ H Q => ∃ F α ρ μ, Hold K F H α μ ∧ Slots K pn F α ρ σ ∧ wpO a ρ μ (kI K F α Q) (kX K F α σ W)
def tAs (a : As) : TA := fun σ H Q => ∃ F α ρ μ, Hold K F H α μ ∧ Slots K pn F α ρ σ ∧ wpA a ρ μ (kA K F α Q) (kX K F α σ W)
end

section
variable {K : PySem.W.Frag} {pn : List (Addr × Obj)} {W : WX} {F F' H H' : Hp} {α α' : Al} {μ μ' : Mu} {ρ : Rho} {σ : L2.St}
theorem kE.go (g : Go F F' α α') {Q : VK} {rv : RV} (h : kE K pn F α Q rv μ) : kE K pn F' α' Q rv μ := fun v G β H' g' => h v G β H' (g.trans g')
theorem kB.go (g : Go F F' α α') {Q : Bool → Hp → Prop} {b : Bool} (h : kB K F α Q b μ) : kB K F' α' Q b μ := fun G β H' g' => h G β H' (g.trans g')
theorem kI.go (g : Go F F' α α') {Q : Option Int → Hp → Prop} {b : Option Int} (h : kI K F α Q b μ) : kI K F' α' Q b μ := fun G β H' g' => h G β H' (g.trans g')
theorem kA.go (g : Go F F' α α') {Q : List V → Hp → Prop} {rs : List RV} (h : kA K F α Q rs μ) : kA K F' α' Q rs μ := fun v G β H' g' => h v G β H' (g.trans g')
theorem kX.go (g : Go F F' α α') {ex : Ex} (h : kX K F α σ W ex μ) : kX K F' α' σ W ex μ := fun c d G β H' g' => h c d G β H' (g.trans g')
theorem toE (g : Go F F' α α') (hd : Hold K F' H α' μ) (sl : Slots K pn F α ρ σ) {a : E} {Q : VK} (h : wpE a ρ μ (kE K pn F α Q) (kX K F α σ W)) : tE K pn W a σ H Q :=
  ⟨F', α', ρ, μ, hd, sl.mono g, wpE.imp a h (fun _ _ h => h.go g) fun _ _ h => h.go g⟩
theorem toT (g : Go F F' α α') (hd : Hold K F' H α' μ) (sl : Slots K pn F α ρ σ) {a : T} {Q : Bool → Hp → Prop} (h : wpT a ρ μ (kB K F α Q) (kX K F α σ W)) : tT K pn W a σ H Q :=
  ⟨F', α', ρ, μ, hd, sl.mono g, wpT.imp a h (fun _ _ h => h.go g) fun _ _ h => h.go g⟩
theorem one1 (hd : Hold K F H α μ) (sl : Slots K pn F α ρ σ) {a : E} {P : RV → Mu → Prop} {Rs : V → Hp → Prop} (h : wpE a ρ μ P (kX K F α σ W))
    (f : ∀ r μ1 v F1 α1 H1, Go F F1 α α1 → Hold K F1 H1 α1 μ1 → RvR K pn F1 α1 r v → P r μ1 → Rs v H1) : tE K pn W a σ H Rs :=
  ⟨F, α, ρ, μ, hd, sl, wpE.imp a h (fun r m p v F1 α1 H1 g1 h1 rv => f r m v F1 α1 H1 g1 h1 rv p) fun _ _ x => x⟩
theorem two2 (hd : Hold K F H α μ) (sl : Slots K pn F α ρ σ) {a b : E} {P : RV → RV → Mu → Prop} {Rs : V → V → Hp → Prop} (h : wpE a ρ μ (fun r1 μ1 => wpE b ρ μ1 (fun r2 μ2 => P r1 r2 μ2) (kX K F α σ W)) (kX K F α σ W))
    (f : ∀ r1 r2 μ2 v1 v2 F2 α2 H2, Go F F2 α α2 → Hold K F2 H2 α2 μ2 → RvR K pn F2 α2 r1 v1 → RvR K pn F2 α2 r2 v2 → P r1 r2 μ2 → Rs v1 v2 H2) : tE K pn W a σ H fun x H1 => tE K pn W b σ H1 fun y H2 => Rs x y H2 := by
  refine one1 hd sl h fun r1 μ1 v1 F1 α1 H1 g1 h1 rv1 p => ?_
  refine ⟨F1, α1, ρ, μ1, h1, sl.mono g1, wpE.imp b p (fun r2 m p v2 F2 α2 H2 g2 h2 rv2 => f r1 r2 m v1 v2 F2 α2 H2 (g1.trans g2) h2 (rv1.mono g2) rv2 p) fun _ _ x => x.go g1⟩
theorem opt.of {α : Type} {o : Option α} {P : α → Prop} (h : opt o P) : ∃ a, o = some a ∧ P a := by
  cases o with
  | none => exact h.elim
  | some a => exact ⟨a, rfl, h⟩
end

/-- what the rules ask of the place where one stands -/
structure Ct (X : Cx) (W : WX) : Prop where
  nd : X.N.Nodup
  un : X.A.units + 64 < cLine
  tk : Takes X W

section
variable {X : Cx} {W : WX} {pn : List (Addr × Obj)}
theorem d_var {i : Nat} {x : Str} {pos : Pos} (hN : X.N[i]? = some x) (hv : Vis X.env.scope x) (hd : (x == ("__debug__" : Str)) = false) (hcd : (x == ("__classdict__" : Str)) = false) : PE X (.Name x pos) (tE X.K pn W (.var i)) := by
  refine PE.imp (pe_var hN hv hd hcd) ?_
  rintro σ H Q ⟨F, α, ρ, μ, h, sl, w⟩
  obtain ⟨o, e, w⟩ := opt.of w
  obtain ⟨rv, rfl, w⟩ := opt.of w
  obtain ⟨v, e1, r⟩ := sl.2 i rv e
  exact ⟨v, e1, w v F α H .refl h r⟩
theorem d_const {e : Expr} {v : V} {d : D} (h : PE X e (tC v)) (hr : ∀ F, R X.K F v d) : PE X e (tE X.K pn W (.cst d)) := by
  refine PE.imp h ?_
  rintro σ H Q ⟨F, α, ρ, μ, h, sl, w⟩
  exact w v F α H .refl h (hr F)
theorem d_glb {e : Expr} {x : Str} {v : V} {d : D} (h : PE X e (tC v)) (hr : ∀ F, R X.K F v d) : PE X e (tE X.K pn W (.glb x d)) := by
  refine PE.imp h ?_
  rintro σ H Q ⟨F, α, ρ, μ, h, sl, w⟩
  exact w v F α H .refl h (hr F)

def Cop.op : Cop → CmpOp
  | .eq => .Eq | .ne => .NotEq | .lt => .Lt | .le => .LtE | .gt => .Gt | .ge => .GtE | .isN => .Is | .notN => .IsNot | .inn => .In | .nin => .NotIn
mutual
theorem R.dp {K : PySem.W.Frag} {H : Hp} : ∀ {v : V} {d : D} {p : PyData}, R K H v d → toPy d = some p → Dp K H v p
  | _, _, _, .non, e => by cases e; exact .non
  | _, _, _, .bl b, e => by cases e; exact .bl b
  | _, _, _, .int b, e => by cases e; exact .int b
  | _, _, _, .str b, e => by cases e; exact .str b
  | _, _, _, .lst (ds := ds) s r, e => by
    have e : (toPys ds).map PyData.list = some _ := e
    obtain ⟨ps, e1, rfl⟩ := Option.map_eq_some_iff.mp e
    exact .lst (.inl s) (RL.dp r e1)
  | _, _, _, .tup (ds := ds) s r, e => by
    have e : (toPys ds).map PyData.tuple = some _ := e
    obtain ⟨ps, e1, rfl⟩ := Option.map_eq_some_iff.mp e
    exact .tup s (RL.dp r e1)
  | _, _, _, .ty _, e => by cases e
  | _, _, _, .gl _, e => by cases e
  | _, _, _, .dK _ _, e => by cases e
  | _, _, _, .dT _ _, e => by cases e
  | _, _, _, .obj _ _ _, e => by cases e
theorem RL.dp {K : PySem.W.Frag} {H : Hp} : ∀ {v : List V} {d : List D} {p : List PyData}, RL K H v d → toPys d = some p → DpAll K H v p
  | _, _, _, .nil, e => by cases e; exact .nil
  | _, _, _, .cons (d := d) (ds := ds) h r, e => by
    have e : ((toPy d).bind fun p => (toPys ds).map fun ps => p :: ps) = some _ := e
    obtain ⟨p, e1, e⟩ := Option.bind_eq_some_iff.mp e
    obtain ⟨ps, e2, rfl⟩ := Option.map_eq_some_iff.mp e
    exact .cons (R.dp h e1) (RL.dp r e2)
end
theorem R.flat {K : PySem.W.Frag} {H : Hp} {v : V} {d : D} (r : R K H v d) (f : flD d = true) : flatV v = true := by
  cases r <;> first | rfl | cases f
theorem R.eqF {K : PySem.W.Frag} {H : Hp} {v w : V} {d e : D} (r : R K H v d) (q : R K H w e) (f : flD d = true) (g : flD e = true) : eqV v w = eqF d e := by
  cases r <;> first | (cases f; done) | (cases q <;> first | rfl | cases g)
theorem RL.flat {K : PySem.W.Frag} {H : Hp} : ∀ {v : List V} {d : List D}, RL K H v d → d.all flD = true → v.all flatV = true
  | _, _, .nil, _ => rfl
  | _, _, .cons h r, e => by
    rw [List.all_cons, Bool.and_eq_true] at e
    rw [List.all_cons, h.flat e.1, RL.flat r e.2]; rfl
theorem RL.inF {K : PySem.W.Frag} {H : Hp} {w : V} {e : D} (q : R K H w e) (g : flD e = true) : ∀ {v : List V} {d : List D}, RL K H v d → d.all flD = true → inV w v = d.any fun x => DL.eqF x e
  | _, _, .nil, _ => rfl
  | _, _, .cons h r, f => by
    rw [List.all_cons, Bool.and_eq_true] at f
    show (eqV _ w || inV w _) = _
    rw [List.any_cons, h.eqF q f.1 g, RL.inF q g r f.2]
def rC (K : PySem.W.Frag) (o : Cop) : R2 := fun x y H Q => ∃ d e z, R K H x d ∧ R K H y e ∧ cmpD o d e = some z ∧ Q (.bl z) H
theorem eq_deep (hu : X.A.units + 64 < cLine) {pins : List (Addr × Obj)} {s : Shared} {σ : L2.St} {H : Hp} {x y : V} {v u : Value} {d e : D} {z : Bool} (I : Inv X pins σ H s) (rx : RelV x v) (ry : RelV y u) (hx : R X.K H x d) (hy : R X.K H y e)
    (hz : ((toPy d).bind fun p => (toPy e).bind fun q => eqP p q) = some z) {Q : VK} :
    (Q (.bl z) H → wpAny (model X.prog X.w) X.A (compareOp .Eq v u) (EP X pins σ Q) X.xe s) ∧ (Q (.bl (!z)) H → wpAny (model X.prog X.w) X.A (compareOp .NotEq v u) (EP X pins σ Q) X.xe s) := by
  obtain ⟨p, e1, hz⟩ := Option.bind_eq_some_iff.mp hz
  obtain ⟨q, e2, hz⟩ := Option.bind_eq_some_iff.mp hz
  unfold eqP at hz
  split at hz
  · rename_i c
    cases hz
    rw [Bool.and_eq_true] at c
    obtain ⟨as, r1⟩ := Dp.reads I p x v (hx.dp e1) rx
    obtain ⟨bs, r2⟩ := Dp.reads I q y u (hy.dp e2) ry
    exact ⟨fun q => SeqAt.compareEq_shaped r1 r2 c.1 c.2 hu ⟨.bl _, H, I, rfl, q⟩, fun q => SeqAt.compareNe_shaped r1 r2 c.1 c.2 hu ⟨.bl _, H, I, rfl, q⟩⟩
  · cases hz
theorem dk_ok {pins : List (Addr × Obj)} {s : Shared} {σ : L2.St} {H : Hp} {a : Addr} {kvs : List (Key × V)} (I : Inv X pins σ H s) (h : Rd H a (.dK kvs)) : kvs.length ≤ sizeLine ∧ (a == sysModules) = false ∧ ∃ vs, KV kvs vs ∧ s.heap.DictOf (mixKind X.prog X.w) a vs := h.ok I.hok
theorem hits_of {pins : List (Addr × Obj)} {s : Shared} {σ : L2.St} {H : Hp} (hu : X.A.units + 64 < cLine) (I : Inv X pins σ H s) {ls : List (Key × V)} {es : List (Key × D)} (rl : RK X.K H ls es) {vb : List (Key × Value)} (rb : KV ls vb) :
    ∀ {ks : List (Key × V)} {ds : List (Key × D)} {va : List (Key × Value)} {z : Bool}, RK X.K H ks ds → KV ks va → hitsD es ds = some z → PySem.W.KeqHits X.A.in1 s vb va z
  | _, _, _, _, .nil, r, e => by cases r; cases e; exact .nil
  | _, _, va, z, .cons (k := k) (v := x) (d := d) (kvs := ks) (ds := ds) h t, r, e => by
    cases r with
    | cons rr rt =>
      rename_i q qs
      obtain ⟨k', y⟩ := q
      obtain ⟨e1, rx⟩ := rr
      have e1 : k = k' := e1
      subst e1
      unfold hitsD at e
      have rv := rb.val k
      rcases rl.lk k with ⟨z1, z2⟩ | ⟨u, w, z1, z2, ru⟩
      · rw [z1] at e
        cases e
        rw [z2] at rv
        refine .miss ?_
        cases q : valueAt vb k with
        | none => rfl
        | some _ => rw [q] at rv; exact rv.elim
      · rw [z1] at e
        obtain ⟨b1, e2, e3⟩ := Option.bind_eq_some_iff.mp e
        obtain ⟨b2, e4, rfl⟩ := Option.map_eq_some_iff.mp e3
        rw [z2] at rv
        obtain ⟨y', hy, ry⟩ := RelO.some_of rv
        obtain ⟨p, p1, e2⟩ := Option.bind_eq_some_iff.mp e2
        obtain ⟨q, p2, e2⟩ := Option.bind_eq_some_iff.mp e2
        split at e2
        · rename_i c
          cases e2
          simp only [Bool.and_eq_true, decide_eq_true_eq] at c
          obtain ⟨as, r1⟩ := Dp.reads I p x y (h.dp p1) rx
          obtain ⟨bs, r2⟩ := Dp.reads I q w y' (ru.dp p2) ry
          refine .hit hy (SeqAt.eqAt_reads p q _ s y y' as bs r1 r2 c.1.1 c.1.2 ?_) (hits_of hu I rl rb t rt e4)
          show X.A.units + 1 + min p.depth q.depth < cLine
          have := Nat.min_le_left p.depth q.depth
          omega
        · cases e2
theorem eq_dic (hu : X.A.units + 64 < cLine) {pins : List (Addr × Obj)} {s : Shared} {σ : L2.St} {H : Hp} {x y : V} {v u : Value} {d e : List (Key × D)} {z : Bool} (I : Inv X pins σ H s) (rx : RelV x v) (ry : RelV y u) (hx : R X.K H x (.dic d)) (hy : R X.K H y (.dic e))
    (hz : eqDic d e = some z) {Q : VK} :
    (Q (.bl z) H → wpAny (model X.prog X.w) X.A (compareOp .Eq v u) (EP X pins σ Q) X.xe s) ∧ (Q (.bl (!z)) H → wpAny (model X.prog X.w) X.A (compareOp .NotEq v u) (EP X pins σ Q) X.xe s) := by
  cases hx with
  | dK h1 r1 =>
    rename_i a ks
    cases hy with
    | dK h2 r2 =>
      rename_i b ls
      obtain rfl : v = Value.ref a := rx
      obtain rfl : u = Value.ref b := ry
      obtain ⟨_, ya, va, ra, da⟩ := dk_ok I h1
      obtain ⟨_, yb, vb, rb, db⟩ := dk_ok I h2
      have l1 : va.length = d.length := by rw [← ra.length, r1.length]
      have l2 : vb.length = e.length := by rw [← rb.length, r2.length]
      unfold eqDic at hz
      split at hz
      · rename_i hl
        have hh := hits_of hu I r2 rb r1 ra hz
        have ee : (va.length == vb.length && z) = z := by rw [l1, l2, hl]; simp
        exact ⟨fun q => PySem.W.keq_eq (knd := mixKind X.prog X.w) (r := z) ya yb da db (by omega) (fun _ => hh) (by rw [ee]; exact ⟨.bl _, H, I, rfl, q⟩), fun q => PySem.W.keq_ne (knd := mixKind X.prog X.w) (r := z) ya yb da db (by omega) (fun _ => hh) (by rw [ee]; exact ⟨.bl _, H, I, rfl, q⟩)⟩
      · rename_i hl
        cases hz
        have ee : (va.length == vb.length && true) = false := by rw [l1, l2, Bool.and_true]; exact beq_false_of_ne hl
        have hh : va.length = vb.length → PySem.W.KeqHits X.A.in1 s vb va true := fun q => absurd (by rw [← l1, ← l2]; exact q) hl
        exact ⟨fun q => PySem.W.keq_eq (knd := mixKind X.prog X.w) (r := true) ya yb da db (by omega) hh (by rw [ee]; exact ⟨.bl _, H, I, rfl, q⟩), fun q => PySem.W.keq_ne (knd := mixKind X.prog X.w) (r := true) ya yb da db (by omega) hh (by rw [ee]; exact ⟨.bl _, H, I, rfl, q⟩)⟩
theorem eq_any (hu : X.A.units + 64 < cLine) {pins : List (Addr × Obj)} {s : Shared} {σ : L2.St} {H : Hp} {x y : V} {v u : Value} {d e : D} {z : Bool} (I : Inv X pins σ H s) (rx : RelV x v) (ry : RelV y u) (hx : R X.K H x d) (hy : R X.K H y e)
    (hz : eqD d e = some z) {Q : VK} :
    (Q (.bl z) H → wpAny (model X.prog X.w) X.A (compareOp .Eq v u) (EP X pins σ Q) X.xe s) ∧ (Q (.bl (!z)) H → wpAny (model X.prog X.w) X.A (compareOp .NotEq v u) (EP X pins σ Q) X.xe s) := by
  unfold eqD at hz
  split at hz
  · exact eq_dic hu I rx ry hx hy hz
  · cases hz; cases hx; cases hy
    exact ⟨fun q => op_eq pins s σ H _ _ v u Q I rx ry ⟨rfl, by rw [dec_str]; exact q⟩, fun q => op_ne pins s σ H _ _ v u Q I rx ry ⟨rfl, by rw [dec_str]; exact q⟩⟩
  all_goals first
    | exact eq_deep hu I rx ry hx hy hz
    | (cases hz; cases hx; cases hy
       exact ⟨fun q => op_eq pins s σ H _ _ v u Q I rx ry ⟨rfl, by rw [decide_eq_false (fun z => nomatch z)]; exact q⟩, fun q => op_ne pins s σ H _ _ v u Q I rx ry ⟨rfl, by rw [decide_eq_false (fun z => nomatch z)]; exact q⟩⟩)
theorem toPys_list : ∀ {ds : List D} {ps : List PyData}, toPys ds = some ps → toPy (.lst ds) = some (.list ps) := fun e => by
  show (toPys _).map PyData.list = _
  rw [e]; rfl
theorem canAll {ps : List PyData} (h : SeqAt.shaped (.list ps) = true) : PyData.canLayAll0 ps = true := SeqAt.canLay_of_shaped h
theorem depthAll {ps : List PyData} (h : SeqAt.shaped (.list ps) = true) : PyData.depthAll ps ≤ 64 := by
  have h1 := SeqAt.depth_of_shaped h
  have : (PyData.list ps).depth = PyData.depthAll ps + 1 ∨ (PyData.list ps).depth = 1 + PyData.depthAll ps := by
    first | exact .inl (by simp [PyData.depth]) | exact .inr (by simp [PyData.depth])
  omega
theorem in_any (hu : X.A.units + 64 < cLine) {pins : List (Addr × Obj)} {s : Shared} {σ : L2.St} {H : Hp} {x : V} {a : Addr} {vs : List V} {v u : Value} {d : D} {es : List D} {z : Bool} (I : Inv X pins σ H s) (rx : RelV x v) (ry : RelV (.ref a) u) (hx : R X.K H x d)
    (hs : SqL X.K H a vs ∨ SqT X.K H a vs) (hr : RL X.K H vs es) (hz : inD d es = some z) {Q : VK} :
    (Q (.bl z) H → wpAny (model X.prog X.w) X.A (compareOp .In v u) (EP X pins σ Q) X.xe s) ∧ (Q (.bl (!z)) H → wpAny (model X.prog X.w) X.A (compareOp .NotIn v u) (EP X pins σ Q) X.xe s) := by
  unfold inD at hz
  split at hz
  · rename_i c
    cases hz
    rw [Bool.and_eq_true] at c
    have e := hr.inF hx c.1 c.2
    exact ⟨fun q => op_in_seq pins s σ H _ _ v u Q I rx ry ⟨a, vs, rfl, hs, hx.flat c.1, hr.flat c.2, by rw [e]; exact q⟩, fun q => op_notIn_seq pins s σ H _ _ v u Q I rx ry ⟨a, vs, rfl, hs, hx.flat c.1, hr.flat c.2, by rw [e]; exact q⟩⟩
  · obtain ⟨p, e1, hz⟩ := Option.bind_eq_some_iff.mp hz
    obtain ⟨ps, e2, hz⟩ := Option.bind_eq_some_iff.mp hz
    split at hz
    · rename_i c
      cases hz
      rw [Bool.and_eq_true] at c
      obtain ⟨as, r1⟩ := Dp.reads I p x v (hx.dp e1) rx
      have hl := depthAll c.2
      have hu' : X.A.units + 1 + min (PyData.depthAll ps) p.depth < cLine := by
        have h1 : min (PyData.depthAll ps) p.depth ≤ PyData.depthAll ps := Nat.min_le_left _ _
        have h2 : PyData.depthAll ps + 1 ≤ 64 := by
          have h1 := SeqAt.depth_of_shaped c.2
          have : (PyData.list ps).depth = PyData.depthAll ps + 1 ∨ (PyData.list ps).depth = 1 + PyData.depthAll ps := by
            first | exact .inl (by simp [PyData.depth]) | exact .inr (by simp [PyData.depth])
          omega
        omega
      rcases hs with hs | hs
      · obtain ⟨bs, r2⟩ := Dp.reads I (.list ps) (.ref a) u (.lst hs (hr.dp e2)) ry
        exact ⟨fun q => SeqAt.in_list_reads r2 r1 (canAll c.2) (SeqAt.canLay_of_shaped c.1) hu' ⟨.bl _, H, I, rfl, q⟩, fun q => SeqAt.notIn_list_reads r2 r1 (canAll c.2) (SeqAt.canLay_of_shaped c.1) hu' ⟨.bl _, H, I, rfl, q⟩⟩
      · obtain ⟨bs, r2⟩ := Dp.reads I (.tuple ps) (.ref a) u (.tup hs (hr.dp e2)) ry
        exact ⟨fun q => SeqAt.in_tuple_reads r2 r1 (canAll c.2) (SeqAt.canLay_of_shaped c.1) hu' ⟨.bl _, H, I, rfl, q⟩, fun q => SeqAt.notIn_tuple_reads r2 r1 (canAll c.2) (SeqAt.canLay_of_shaped c.1) hu' ⟨.bl _, H, I, rfl, q⟩⟩
    · cases hz
theorem R.non_iff {K : PySem.W.Frag} {H : Hp} {v : V} {d : D} (r : R K H v d) : decide (v = .non) = isNon d := by
  cases r <;> simp [isNon]
theorem R.dgk {K : PySem.W.Frag} {H : Hp} {y : V} {d : D} {k : Key} (r : R K H y d) (e : keyOf d = some k) : y = kV k := by
  cases r <;> first | (cases e; done) | (cases e; rfl)
theorem dget_of {K : PySem.W.Frag} {H F : Hp} {a : Addr} {y : V} {d : D} {k : Key} {vs : List (Key × V)} (h : Rd H a (.dK vs)) (ry : R K H y d) (e : keyOf d = some k) : DGet H a y (valV vs k) := .inl ⟨vs, k, h, ry.dgk e, rfl⟩
theorem op_cmp (hu : X.A.units + 64 < cLine) (o : Cop) : OpR X (compareOp o.op) (rC X.K o) := by
  intro pins s σ H x y v u Q I rx ry h
  obtain ⟨d, e, z, hx, hy, hz, q⟩ := h
  unfold cmpD at hz
  split at hz
  · exact (eq_any hu I rx ry hx hy hz).1 q
  · obtain ⟨z', hz', rfl⟩ := Option.map_eq_some_iff.mp hz
    exact (eq_any hu I rx ry hx hy hz').2 q
  · cases hz; cases hx; cases hy; exact op_lt pins s σ H _ _ v u Q I rx ry ⟨_, _, rfl, rfl, q⟩
  · cases hz; cases hx; cases hy; exact op_le pins s σ H _ _ v u Q I rx ry ⟨_, _, rfl, rfl, q⟩
  · cases hz; cases hx; cases hy; exact op_gt pins s σ H _ _ v u Q I rx ry ⟨_, _, rfl, rfl, q⟩
  · cases hz; cases hx; cases hy; exact op_ge pins s σ H _ _ v u Q I rx ry ⟨_, _, rfl, rfl, q⟩
  · cases hz; cases hy; exact op_isN pins s σ H _ _ v u Q I rx ry ⟨rfl, by rw [hx.non_iff]; exact q⟩
  · cases hz; cases hy
    refine op_notN pins s σ H _ _ v u Q I rx ry ⟨rfl, ?_⟩
    rw [hx.non_iff]
    exact q
  · cases hz; cases hy; cases hx; exact op_isBl pins s σ H _ _ v u Q I rx ry ⟨_, _, rfl, rfl, q⟩
  · cases hz; cases hy; cases hx; exact op_notBl pins s σ H _ _ v u Q I rx ry ⟨_, _, rfl, rfl, q⟩
  · split at hz
    · rename_i c e
      cases hz; cases hx; cases hy
      rename_i x z _
      have e' : x = ⟨#[c]⟩ := by
        cases x with | mk l => cases l with | mk l => simp at e; rw [e]
      subst e'
      exact op_in_sign pins s σ H _ _ v u Q I rx ry ⟨c, _, rfl, rfl, q⟩
    · cases hz
  · cases hy with | lst hs hr => exact (in_any hu I rx ry hx (.inl (.inl hs)) hr hz).1 q
  · cases hy with | tup hs hr => exact (in_any hu I rx ry hx (.inr hs) hr hz).1 q
  · obtain ⟨z', hz', rfl⟩ := Option.map_eq_some_iff.mp hz
    cases hy with | lst hs hr => exact (in_any hu I rx ry hx (.inl (.inl hs)) hr hz').2 q
  · obtain ⟨z', hz', rfl⟩ := Option.map_eq_some_iff.mp hz
    cases hy with | tup hs hr => exact (in_any hu I rx ry hx (.inr hs) hr hz').2 q
  · obtain ⟨k, hk, rfl⟩ := Option.map_eq_some_iff.mp hz
    cases hy with
    | dK hs hr =>
      rename_i aa vs
      obtain rfl : u = Value.ref aa := ry
      refine d_in (a := aa) (by omega) I (dget_of (F := H) hs hx hk) rx fun s' I' => ⟨.bl _, H, I', rfl, ?_⟩
      rcases hr.lk k with ⟨z1, z2⟩ | ⟨d1, w1, z1, z2, _⟩
      · rw [z2]; rw [z1] at q; exact q
      · rw [z2]; rw [z1] at q; exact q
  · obtain ⟨k, hk, rfl⟩ := Option.map_eq_some_iff.mp hz
    cases hy with
    | dK hs hr =>
      rename_i aa vs
      obtain rfl : u = Value.ref aa := ry
      refine d_notIn (a := aa) (by omega) I (dget_of (F := H) hs hx hk) rx fun s' I' => ⟨.bl _, H, I', rfl, ?_⟩
      rcases hr.lk k with ⟨z1, z2⟩ | ⟨d1, w1, z1, z2, _⟩
      · rw [z2]; rw [z1] at q; exact q
      · rw [z2]; rw [z1] at q; exact q
  · cases hz
theorem d_cmp (c : Ct X W) {o : Cop} {l r : Expr} {pos : Pos} {a b : E} (hl : PE X l (tE X.K pn W a)) (hr : PE X r (tE X.K pn W b)) (hm : behindInMarks o.op r = false) : PE X (.Compare l [o.op] [r] pos) (tE X.K pn W (.cmp o a b)) := by
  refine PE.imp (pe_cmpR (op_cmp c.un o) hl hr hm) ?_
  rintro σ H Q ⟨F, α, ρ, μ, h, sl, w⟩
  refine two2 h sl w fun r1 r2 μ2 v1 v2 F2 α2 H2 g2 h2 rv1 rv2 p => ?_
  obtain ⟨d, e1, p⟩ := opt.of p
  obtain ⟨e, e2, p⟩ := opt.of p
  obtain ⟨z, e3, p⟩ := opt.of p
  exact ⟨d, e, z, h2.see rv1 e1, h2.see rv2 e2, e3, p _ F2 α2 H2 g2 h2 (R.bl z)⟩
theorem dt_cmp (c : Ct X W) {o : Cop} {l r : Expr} {pos : Pos} {a b : E} (hl : PE X l (tE X.K pn W a)) (hr : PE X r (tE X.K pn W b)) (hm : behindInMarks o.op r = false) : PT X (.Compare l [o.op] [r] pos) (tT X.K pn W (.v (.cmp o a b))) := by
  refine PT.imp (pt_cmpR (op_cmp c.un o) hl hr hm) ?_
  rintro σ H Q ⟨F, α, ρ, μ, h, sl, w⟩
  refine two2 h sl w fun r1 r2 μ2 v1 v2 F2 α2 H2 g2 h2 rv1 rv2 p => ?_
  obtain ⟨d, e1, p⟩ := opt.of p
  obtain ⟨e, e2, p⟩ := opt.of p
  obtain ⟨z, e3, p⟩ := opt.of p
  exact ⟨d, e, z, h2.see rv1 e1, h2.see rv2 e2, e3, z, rfl, p F2 α2 H2 g2 h2⟩
end
end DL

namespace DL
open PySem PySem.Spec PyProof.Rows L2

theorem line_eq : (sizeLine : Nat) = 16777216 := by rw [sizeLine_eq]
def kD (K : PySem.W.Frag) (F : Hp) (α : Al) (μ : Mu) (z : D) (Q : VK) : Prop := ∀ v F' H', Go F F' α α → Hold K F' H' α μ → R K F' v z → Q v H'
section
variable {K : PySem.W.Frag} {pn : List (Addr × Obj)} {W : WX} {F F' H H' : Hp} {α α' : Al} {μ μ' : Mu} {ρ : Rho} {σ : L2.St} {Q : VK}
theorem kD.now (h : kD K F α μ z Q) (hd : Hold K F H α μ) {v : V} (r : R K F v z) : Q v H := h v F H .refl hd r
theorem kD.lst {ds : List D} {vs : List V} {p : Addr} (h : kD K F α μ (.lst ds) Q) (hd : Hold K F H α μ) (n : H p = none) (r : RL K F vs ds) : Q (.ref p) (upd H p (.lst vs)) := by
  obtain ⟨h', g⟩ := hd.new (u := .lst vs) n fun _ _ z => nomatch z
  exact h _ _ _ g h' (.lst (.inl upd_same) (r.mono g.1))
theorem kD.tup {ds : List D} {vs : List V} {p : Addr} (h : kD K F α μ (.tup ds) Q) (hd : Hold K F H α μ) (n : H p = none) (r : RL K F vs ds) : Q (.ref p) (upd H p (.tup vs)) := by
  obtain ⟨h', g⟩ := hd.new (u := .tup vs) n fun _ _ z => nomatch z
  exact h _ _ _ g h' (.tup (SqT.of upd_same) (r.mono g.1))
/-- a new list of the store's own -/
theorem kE.lst {ds : List D} {vs : List V} {p : Addr} (g : Go F F' α α') (h : kE K pn F α Q (.loc μ.length) (μ ++ [.lst ds])) (hd : Hold K F' H α' μ) (n : H p = none) (r : RL K F' vs ds) : Q (.ref p) (upd H p (.lst vs)) := by
  have nh : α'.hid p = none := by
    cases q : α'.hid p with
    | none => rfl
    | some ws => have := (hd.hd p ws q).1; rw [n] at this; cases this
  obtain ⟨h', g'⟩ := (hd.add (u := .lst vs) n).own (p := p) (o := .lst ds) (by rw [upd_same]; simp) (fun z => hd.al _ z n) nh ⟨hd.fr _ n, vs, upd_same, r⟩
  exact h _ _ _ _ (g.trans g') h' ⟨p, by rw [← hd.len]; simp, rfl⟩
theorem kD.ofE (g : Go F F' α α') (z : D) (h : kE K pn F α Q (.dat z) μ) : kD K F' α' μ z Q := fun v G H' g' hd r => h v G _ H' (g.trans g') hd r
end

section
variable {X : Cx} {W : WX} {pn : List (Addr × Obj)}
def Bop.op : Bop → Operator
  | .add => .Add | .sub => .Sub | .mul => .Mult | .fdiv => .FloorDiv | .mod => .Mod | .pow => .Pow
def rB (K : PySem.W.Frag) (pn : List (Addr × Obj)) (o : Bop) : R2 := fun x y H Q => ∃ F α μ r1 r2 d e z, Hold K F H α μ ∧ RvR K pn F α r1 x ∧ RvR K pn F α r2 y ∧ vw μ r1 = some d ∧ vw μ r2 = some e ∧ binD o d e = some z ∧ kD K F α μ z Q
theorem op_catS : OpR X (binaryOp .Add) (fun x y H Q => ∃ l b xs zs, x = .ref l ∧ y = .ref b ∧ Rd H l (.lst xs) ∧ Rd H b (.lst zs) ∧ xs.length + zs.length ≤ sizeLine ∧ ∀ p, H p = none → Q (.ref p) (upd H p (.lst (xs ++ zs)))) := by
  intro pins s σ H x y v u Q I rx ry h
  obtain ⟨l, b, xs, zs, rfl, rfl, hH, hB, hz, q⟩ := h
  cases rx
  cases ry
  obtain ⟨z, its, n, r, e⟩ := hH.ok I.hok
  obtain ⟨z2, its2, n2, r2, e2⟩ := hB.ok I.hok
  have hl := r.length
  have hl2 := r2.length
  refine PySem.P.add_list e e2 ?_ (by rw [List.size_toArray, List.size_toArray]; omega)
  have ea : its.toArray ++ its2.toArray = (its ++ its2).toArray := by simp
  rw [ea]
  exact ⟨.ref _, _, I.lnew (t' := s.toks) (r.append r2) (by rw [List.length_append]; omega), rfl, q _ I.fresh⟩
theorem mulOk {x : Str} {j : Int} (h : 0 ≤ j ∧ j ≤ 1000 ∧ x.length ≤ 1000) : MulOk x j := by
  obtain ⟨h1, h2, h3⟩ := h
  refine ⟨?_, fun h4 _ h5 => ?_, fun _ _ => ?_⟩
  · rw [Bool.or_eq_false_iff]; exact ⟨decide_eq_false (by omega), decide_eq_false (by omega)⟩
  · have : (2 ^ 63 - 1) / 1000 ≤ ((2 ^ 63 - 1) / j : Int) := by
      have hj : 0 < j := by omega
      exact (Int.le_ediv_iff_mul_le hj).mpr (Int.le_trans (Int.mul_le_mul_of_nonneg_left h2 (by decide)) (by decide))
    have h6 : (2 ^ 63 - 1) / 1000 = (9223372036854775 : Int) := by decide
    omega
  · have : x.length * j.toNat ≤ 1000 * 1000 := Nat.mul_le_mul h3 (by omega)
    show decide (x.length * j.toNat > sizeLine) = false
    exact decide_eq_false (by rw [line_eq]; omega)
theorem op_bin (o : Bop) : OpR X (binaryOp o.op) (rB X.K pn o) := by
  intro pins s σ H x y v u Q I rx ry h
  obtain ⟨F, α, μ, r1, r2, d, e, z, hd, q1, q2, e1, e2, e3, k⟩ := h
  have hx := hd.see q1 e1
  have hy := hd.see q2 e2
  unfold binD at e3
  split at e3
  · cases e3; cases hx; cases hy; exact op_add pins s σ H _ _ v u Q I rx ry ⟨_, _, rfl, rfl, k.now hd (.int _)⟩
  · cases e3; cases hx; cases hy; exact op_sub pins s σ H _ _ v u Q I rx ry ⟨_, _, rfl, rfl, k.now hd (.int _)⟩
  · split at e3
    · rename_i c; cases e3; cases hx; cases hy; exact op_mul pins s σ H _ _ v u Q I rx ry ⟨_, _, rfl, rfl, c, k.now hd (.int _)⟩
    · cases e3
  · split at e3
    · rename_i c; cases e3; cases hx; cases hy; exact op_fdiv pins s σ H _ _ v u Q I rx ry ⟨_, _, rfl, rfl, c, k.now hd (.int _)⟩
    · cases e3
  · split at e3
    · rename_i c; cases e3; cases hx; cases hy; exact op_mod pins s σ H _ _ v u Q I rx ry ⟨_, _, rfl, rfl, c, k.now hd (.int _)⟩
    · cases e3
  · split at e3
    · rename_i c; cases e3; cases hx; cases hy; exact op_pow pins s σ H _ _ v u Q I rx ry ⟨_, _, rfl, rfl, c, k.now hd (.int _)⟩
    · cases e3
  · split at e3
    · rename_i c; cases e3; cases hx; cases hy; exact op_add_str pins s σ H _ _ v u Q I rx ry ⟨_, _, rfl, rfl, by rw [line_eq]; exact c, k.now hd (.str _)⟩
    · cases e3
  · split at e3
    · rename_i c; cases e3; cases hx; cases hy
      obtain ⟨t, rfl⟩ := rx
      obtain ⟨t', rfl⟩ := ry
      exact SB.mul (mulOk c) fun t' k' => ⟨.str _, H, I.tok _, ⟨_, rfl⟩, k.now hd (.str _)⟩
    · cases e3
  · split at e3
    · rename_i c
      cases e3
      obtain ⟨a, vs, rfl, s1, l1⟩ := hd.items q1 e1
      obtain ⟨b, ws, rfl, s2, l2⟩ := hd.items q2 e2
      refine op_catS pins s σ H _ _ v u Q I rx ry ⟨a, b, vs, ws, rfl, rfl, s1, s2, ?_, fun p np => k.lst hd np (l1.append l2)⟩
      rw [l1.length, l2.length, line_eq]; exact c
    · cases e3
  · split at e3
    · rename_i c
      cases e3
      obtain ⟨a, vs, rfl, s1, f1, l1⟩ := hd.itemsT q1 e1
      obtain ⟨b, ws, rfl, s2, f2, l2⟩ := hd.itemsT q2 e2
      refine op_catT pins s σ H _ _ v u Q I rx ry ⟨a, b, vs, ws, rfl, rfl, s1, s2, fun z => ?_, ?_, fun z => ?_, fun z p np => k.tup hd np (l1.append l2)⟩
      · subst z; cases l1; exact absurd c.1 (by simp)
      · rw [l1.length, l2.length, line_eq]; exact c.2
      · subst z
        cases l2
        rw [List.append_nil] at k
        exact k.now hd (.tup f1 l1)
    · cases e3
  · cases e3
theorem d_bin {o : Bop} {l r : Expr} {pos : Pos} {a b : E} (hl : PE X l (tE X.K pn W a)) (hr : PE X r (tE X.K pn W b)) : PE X (.BinOp l o.op r pos) (tE X.K pn W (.bin o a b)) := by
  refine PE.imp (pe_op (op_bin (pn := pn) o) hl hr) ?_
  rintro σ H Q ⟨F, α, ρ, μ, h, sl, w⟩
  refine two2 h sl w fun r1 r2 μ2 v1 v2 F2 α2 H2 g2 h2 rv1 rv2 p => ?_
  obtain ⟨d, e1, p⟩ := opt.of p
  obtain ⟨e, e2, p⟩ := opt.of p
  obtain ⟨z, e3, p⟩ := opt.of p
  exact ⟨F2, α2, μ2, r1, r2, d, e, z, h2, rv1, rv2, e1, e2, e3, .ofE g2 z p⟩

theorem chn_in {σ : L2.St} {H : Hp} {Q : VK} {o o' : Cop} {a b c : E} {F : Hp} {α : Al} {ρ : Rho} {μ : Mu} (h : Hold X.K F H α μ) (sl : Slots X.K pn F α ρ σ) {P : QV} (w : wpE (.chn o o' a b c) ρ μ P (kX X.K F α σ W))
    (f : ∀ z μ1 F1 α1 H1, Go F F1 α α1 → Hold X.K F1 H1 α1 μ1 → P (.dat (.bl z)) μ1 → Q (.bl z) H1) : tChain (rC X.K o) (rC X.K o') (tE X.K pn W a) (tE X.K pn W b) (tE X.K pn W c) σ H Q := by
  refine two2 h sl w fun r1 r2 μ2 v1 v2 F2 α2 H2 g2 h2 rv1 rv2 p => ?_
  obtain ⟨d, e1, p⟩ := opt.of p
  obtain ⟨e, e2, p⟩ := opt.of p
  obtain ⟨z, e3, p⟩ := opt.of p
  refine ⟨d, e, z, h2.see rv1 e1, h2.see rv2 e2, e3, z, rfl, ?_⟩
  cases z with
  | false => rw [if_neg Bool.false_ne_true] at p ⊢; exact f _ _ _ _ _ g2 h2 p
  | true =>
    rw [if_pos rfl] at p ⊢
    refine ⟨F2, α2, ρ, μ2, h2, sl.mono g2, wpE.imp c p (fun r3 μ3 p v3 F3 α3 H3 g3 h3 rv3 => ?_) fun _ _ x => x.go g2⟩
    obtain ⟨e', e4, p⟩ := opt.of p
    obtain ⟨f', e5, p⟩ := opt.of p
    obtain ⟨z, e6, p⟩ := opt.of p
    exact ⟨e', f', z, h3.see (rv2.mono g3) e4, h3.see rv3 e5, e6, f _ _ _ _ _ (g2.trans g3) h3 p⟩
theorem d_chn (c : Ct X W) {o o' : Cop} {l m r : Expr} {pos : Pos} {a b e : E} (hl : PE X l (tE X.K pn W a)) (hm : PE X m (tE X.K pn W b)) (hr : PE X r (tE X.K pn W e))
    (h1 : behindInMarks o.op m = false) (h2 : behindInMarks o'.op r = false) : PE X (.Compare l [o.op, o'.op] [m, r] pos) (tE X.K pn W (.chn o o' a b e)) := by
  refine PE.imp (pe_chain (op_cmp c.un o) (op_cmp c.un o') hl hm hr h2) ?_
  rintro σ H Q ⟨F, α, ρ, μ, h, sl, w⟩
  exact chn_in h sl w fun z μ1 F1 α1 H1 g1 h1 p => p _ F1 α1 H1 g1 h1 (R.bl z)
theorem dt_chn (c : Ct X W) {o o' : Cop} {l m r : Expr} {pos : Pos} {a b e : E} (hl : PE X l (tE X.K pn W a)) (hm : PE X m (tE X.K pn W b)) (hr : PE X r (tE X.K pn W e))
    (h1 : behindInMarks o.op m = false) (h2 : behindInMarks o'.op r = false) : PT X (.Compare l [o.op, o'.op] [m, r] pos) (tT X.K pn W (.v (.chn o o' a b e))) := by
  refine PT.imp (pt_chain (op_cmp c.un o) (op_cmp c.un o') hl hm hr h2) ?_
  rintro σ H Q ⟨F, α, ρ, μ, h, sl, w⟩
  exact chn_in h sl w fun z μ1 F1 α1 H1 g1 h1 p => ⟨z, rfl, p F1 α1 H1 g1 h1⟩
theorem RvR.bool {K : PySem.W.Frag} {pn : List (Addr × Obj)} {F : Hp} {α : Al} {v : V} {b : Bool} (h : RvR K pn F α (.dat (.bl b)) v) : v = .bl b := by
  cases h; rfl
theorem d_and {l r : Expr} {rest : List Expr} {pos : Pos} {a b : E} (hl : PE X l (tE X.K pn W a)) (hr : PE X (.BoolOp .And (r :: rest) pos) (tE X.K pn W b)) : PE X (.BoolOp .And (l :: r :: rest) pos) (tE X.K pn W (.and a b)) := by
  refine PE.imp (pe_and hl hr) ?_
  rintro σ H Q ⟨F, α, ρ, μ, h, sl, w⟩
  refine one1 h sl w fun r1 μ1 v1 F1 α1 H1 g1 h1 rv1 p => ?_
  split at p
  · exact ⟨true, rv1.bool, by rw [if_pos rfl]; exact toE g1 h1 sl p⟩
  · exact ⟨false, rv1.bool, by rw [if_neg Bool.false_ne_true]; exact p _ F1 α1 H1 g1 h1 (R.bl false)⟩
  · exact p.elim
theorem d_or {l r : Expr} {rest : List Expr} {pos : Pos} {a b : E} (hl : PE X l (tE X.K pn W a)) (hr : PE X (.BoolOp .Or (r :: rest) pos) (tE X.K pn W b)) : PE X (.BoolOp .Or (l :: r :: rest) pos) (tE X.K pn W (.or a b)) := by
  refine PE.imp (pe_or hl hr) ?_
  rintro σ H Q ⟨F, α, ρ, μ, h, sl, w⟩
  refine one1 h sl w fun r1 μ1 v1 F1 α1 H1 g1 h1 rv1 p => ?_
  split at p
  · exact ⟨true, rv1.bool, by rw [if_pos rfl]; exact p _ F1 α1 H1 g1 h1 (R.bl true)⟩
  · exact ⟨false, rv1.bool, by rw [if_neg Bool.false_ne_true]; exact toE g1 h1 sl p⟩
  · exact p.elim
theorem d_one {o : BoolOp} {l : Expr} {pos : Pos} {a : E} (hl : PE X l (tE X.K pn W a)) : PE X (.BoolOp o [l] pos) (tE X.K pn W (.one a)) := PE.imp (pe_one hl) fun σ H Q h => h
theorem d_not {l : Expr} {pos : Pos} {a : E} (hl : PE X l (tE X.K pn W a)) : PE X (.UnaryOp .Not l pos) (tE X.K pn W (.not a)) := by
  refine PE.imp (pe_not hl) ?_
  rintro σ H Q ⟨F, α, ρ, μ, h, sl, w⟩
  refine one1 h sl w fun r1 μ1 v1 F1 α1 H1 g1 h1 rv1 p => ?_
  split at p
  · exact ⟨_, rv1.bool, p _ F1 α1 H1 g1 h1 (R.bl _)⟩
  · exact p.elim
theorem d_ife {c l r : Expr} {pos : Pos} {t : T} {a b : E} (hc : PT X c (tT X.K pn W t)) (hl : PE X l (tE X.K pn W a)) (hr : PE X r (tE X.K pn W b)) : PE X (.IfExp c l r pos) (tE X.K pn W (.ife t a b)) := by
  refine PE.imp (pe_ifExp hc hl hr) ?_
  rintro σ H Q ⟨F, α, ρ, μ, h, sl, w⟩
  refine ⟨F, α, ρ, μ, h, sl, wpT.imp t w (fun z μ1 p F1 α1 H1 g1 h1 => ?_) fun _ _ x => x⟩
  cases z with
  | true => rw [if_pos rfl] at p ⊢; exact toE g1 h1 sl p
  | false => rw [if_neg Bool.false_ne_true] at p ⊢; exact toE g1 h1 sl p

theorem R.tru {K : PySem.W.Frag} {H : Hp} {v : V} {d : D} {z : Bool} (r : R K H v d) (e : truD d = some z) (hk : ∀ kvs, d = .dic kvs → False) : TruV K v H z := by
  cases r with
  | non => cases e; rfl
  | bl b => cases e; rfl
  | int i => cases e; rfl
  | str x => cases e
  | ty n => cases e
  | gl x => cases e
  | lst s r =>
    cases e
    refine .inl ⟨_, .inl s, ?_⟩
    cases r <;> rfl
  | tup s r =>
    cases e
    refine .inr (.inl ⟨_, s, ?_⟩)
    cases r <;> rfl
  | dK s r => exact (hk _ rfl).elim
  | dT s r => cases e
  | obj _ _ _ => cases e
theorem dt_val {e : Expr} {a : E} (h : PE X e (tE X.K pn W a)) (he : ∀ whole, isTrue e X.env whole = (do let v ← whole; standAt e.pos; holding [v] (truthy v))) : PT X e (tT X.K pn W (.v a)) := by
  refine PT.imp (pt_truth h he) ?_
  rintro σ H Q ⟨F, α, ρ, μ, h, sl, w⟩
  refine one1 h sl w fun r1 μ1 v1 F1 α1 H1 g1 h1 rv1 p => ?_
  obtain ⟨d, e1, p⟩ := opt.of p
  obtain ⟨z, e2, p⟩ := opt.of p
  refine ⟨z, (h1.see rv1 e1).tru e2 ?_, p F1 α1 H1 g1 h1⟩
  rintro kvs rfl
  cases e2
theorem dt_and {l r : Expr} {rest : List Expr} {pos : Pos} {a b : T} (hl : PT X l (tT X.K pn W a)) (hr : PW X (.BoolOp .And (r :: rest) pos) (tT X.K pn W b)) : PW X (.BoolOp .And (l :: r :: rest) pos) (tT X.K pn W (.and a b)) := by
  refine ⟨fun whole pins s σ H Q I q => (pw_and hl hr).run whole pins s σ H Q I ?_⟩
  obtain ⟨F, α, ρ, μ, h, sl, w⟩ := q
  refine ⟨F, α, ρ, μ, h, sl, wpT.imp a w (fun z μ1 p F1 α1 H1 g1 h1 => ?_) fun _ _ x => x⟩
  cases z with
  | true => rw [if_pos rfl] at p ⊢; exact toT g1 h1 sl p
  | false => rw [if_neg Bool.false_ne_true] at p ⊢; exact p F1 α1 H1 g1 h1
theorem dt_or {l r : Expr} {rest : List Expr} {pos : Pos} {a b : T} (hl : PT X l (tT X.K pn W a)) (hr : PW X (.BoolOp .Or (r :: rest) pos) (tT X.K pn W b)) : PW X (.BoolOp .Or (l :: r :: rest) pos) (tT X.K pn W (.or a b)) := by
  refine ⟨fun whole pins s σ H Q I q => (pw_or hl hr).run whole pins s σ H Q I ?_⟩
  obtain ⟨F, α, ρ, μ, h, sl, w⟩ := q
  refine ⟨F, α, ρ, μ, h, sl, wpT.imp a w (fun z μ1 p F1 α1 H1 g1 h1 => ?_) fun _ _ x => x⟩
  cases z with
  | true => rw [if_pos rfl] at p ⊢; exact p F1 α1 H1 g1 h1
  | false => rw [if_neg Bool.false_ne_true] at p ⊢; exact toT g1 h1 sl p
theorem dt_oneA {l : Expr} {pos : Pos} {a : T} (hl : PT X l (tT X.K pn W a)) : PW X (.BoolOp .And [l] pos) (tT X.K pn W (.one a)) := pw_and1 hl
theorem dt_oneO {l : Expr} {pos : Pos} {a : T} (hl : PT X l (tT X.K pn W a)) : PW X (.BoolOp .Or [l] pos) (tT X.K pn W (.one a)) := pw_or1 hl
theorem dt_not {l : Expr} {pos : Pos} {a : T} (hl : PT X l (tT X.K pn W a)) : PT X (.UnaryOp .Not l pos) (tT X.K pn W (.not a)) := by
  refine PT.imp (pt_not hl) ?_
  rintro σ H Q ⟨F, α, ρ, μ, h, sl, w⟩
  exact ⟨F, α, ρ, μ, h, sl, wpT.imp a w (fun z μ1 p F1 α1 H1 g1 h1 => p F1 α1 H1 g1 h1) fun _ _ x => x⟩

theorem RL.atI {K : PySem.W.Frag} {F : Hp} {vs : List V} {ds : List D} {i : Int} {d : D} (r : RL K F vs ds) (e : L2.atI ds i = some d) : ∃ v, L2.atI vs i = some v ∧ R K F v d := by
  unfold L2.atI at e ⊢
  rw [r.length]
  obtain ⟨j, e1, e2⟩ := Option.bind_eq_some_iff.mp e
  obtain ⟨v, h1, h2⟩ := r.get e2
  exact ⟨v, by rw [e1]; exact h1, h2⟩
theorem sub_dk {P : Program} {w : World} {A : Around} {E : Value → Shared → Prop} {s : Shared} {ve se : Expr} {ov iv : Value} {Q : Value → Shared → Prop} (ty : s.TypeIs ov "dict") (sb : subscripted se false ov iv = operate [ov, iv] (getItem ov iv))
    (h : wpAny (model P w) A (getItem ov iv) Q E s) : wpAny (model P w) A (subscriptTail ve se ov iv) Q E s := by
  have last : wpAny (model P w) A (subscripted se false ov iv) (fun r s1 => wpAny (model P w) A (letTemporaryGo ve ov r >>= fun _ => pure r) Q E s1) E s := by
    rw [sb]
    refine wpAny_operating (wpAny_mono h (fun r s1 q => ?_) fun _ _ x => x)
    exact wpAny_bind (wpAny_letTemporaryGo (wpAny_pure q))
  unfold subscriptTail
  rw [getitemInPython_of_ne ty.not_modules]
  refine wpAny_bind (wpAny_bind (wpAny_specialOf ty PySem.F.slot_dict_getitem.lookup ?_))
  first
    | exact wpAny_pure (wpAny_bind last)
    | exact wpAny_bind (wpAny_pure (wpAny_bind last))
    | exact wpAny_bind last
theorem d_ix (hu : X.A.units + 64 < cLine) {l r : Expr} {pos : Pos} {a b : E} (hl : PE X l (tE X.K pn W a)) (hr : PE X r (tE X.K pn W b)) (hs : PlainIx r) : PE X (.Subscript l r pos) (tE X.K pn W (.ix a b)) := by
  have key : IxR X (fun x y H Q => ∃ F α μ r1 r2 d e z, Hold X.K F H α μ ∧ RvR X.K pn F α r1 x ∧ RvR X.K pn F α r2 y ∧ vw μ r1 = some d ∧ vw μ r2 = some e ∧ ixD d e = some z ∧ kD X.K F α μ z Q) := by
    intro ve se pins s σ H x y v u Q I rx ry h hsub
    obtain ⟨F, α, μ, r1, r2, d, e, z, hd, q1, q2, e1, e2, e3, k⟩ := h
    have hy := hd.see q2 e2
    unfold ixD at e3
    split at e3
    · cases hy
      obtain ⟨a, vs, rfl, s1, l1⟩ := hd.items q1 e1
      obtain ⟨w, e4, r4⟩ := l1.atI e3
      exact ix_list ve se pins s σ H _ _ v u Q I rx ry ⟨a, vs, _, w, rfl, rfl, .inl s1, e4, k.now hd r4⟩ hsub
    · cases hy
      obtain ⟨a, vs, rfl, s1, _, l1⟩ := hd.itemsT q1 e1
      obtain ⟨w, e4, r4⟩ := l1.atI e3
      exact ix_tup ve se pins s σ H _ _ v u Q I rx ry ⟨a, vs, _, w, rfl, rfl, s1, e4, k.now hd r4⟩ hsub
    · cases hy
      have hx := hd.see q1 e1
      cases hx
      obtain ⟨c, e4, rfl⟩ := Option.map_eq_some_iff.mp e3
      split at e4
      · rename_i hz
        exact ix_str ve se pins s σ H _ _ v u Q I rx ry ⟨_, _, c, rfl, rfl, by rw [line_eq]; exact hz, e4, k.now hd (.str _)⟩ hsub
      · cases e4
    · obtain ⟨kk, e4, e5⟩ := Option.bind_eq_some_iff.mp e3
      obtain ⟨a, vs, rfl, s1, l1⟩ := hd.dk q1 e1
      obtain rfl : v = Value.ref a := rx
      rcases l1.lk kk with ⟨z1, z2⟩ | ⟨dd, vv, z1, z2, rr⟩
      · rw [z1] at e5; cases e5
      · rw [z1] at e5
        cases e5
        have g : DGet H a y (some vv) := by have g := dget_of (F := H) s1 hy e4; rw [z2] at g; exact g
        exact sub_dk (dict_typeIs I g) hsub (L2.d_getItem (by omega) I g ry fun w' s3 I3 rw' => ⟨vv, H, I3, rw', k.now hd rr⟩)
    · cases e3
  refine PE.imp (pe_ix key hl hr hs) ?_
  rintro σ H Q ⟨F, α, ρ, μ, h, sl, w⟩
  refine two2 h sl w fun r1 r2 μ2 v1 v2 F2 α2 H2 g2 h2 rv1 rv2 p => ?_
  obtain ⟨d, e1, p⟩ := opt.of p
  obtain ⟨e, e2, p⟩ := opt.of p
  obtain ⟨z, e3, p⟩ := opt.of p
  exact ⟨F2, α2, μ2, r1, r2, d, e, z, h2, rv1, rv2, e1, e2, e3, .ofE g2 z p⟩
theorem RL.cut {K : PySem.W.Frag} {F : Hp} {vs : List V} {ds : List D} (r : RL K F vs ds) (lo hi : Option Int) : RL K F (cutV vs lo hi) (cutD ds lo hi) := by
  unfold cutV cutD
  rw [r.length]
  exact (r.drop _).take _
theorem dp_no : PO X none (tP X.K pn W .no) := by
  refine ⟨fun pins s σ H Q I q => (po_none (X := X)).run pins s σ H Q I ?_⟩
  obtain ⟨F, α, ρ, μ, h, sl, w⟩ := q
  exact w F α H .refl h
theorem dp_at {e : Expr} {a : E} (he : PE X e (tE X.K pn W a)) : PO X (some e) (tP X.K pn W (.at a)) := by
  refine ⟨fun pins s σ H Q I q => (po_some he).run pins s σ H Q I ?_⟩
  obtain ⟨F, α, ρ, μ, h, sl, w⟩ := q
  refine one1 h sl w fun r1 μ1 v1 F1 α1 H1 g1 h1 rv1 p => ?_
  split at p
  · cases rv1; exact ⟨_, rfl, p F1 α1 H1 g1 h1⟩
  · exact p.elim
theorem d_sl {e : Expr} {lo hi : Option Expr} {pos p2 : Pos} {a : E} {l h : Po} (he : PE X e (tE X.K pn W a)) (hl : PO X lo (tP X.K pn W l)) (hh : PO X hi (tP X.K pn W h)) : PE X (.Subscript e (.Slice lo hi none p2) pos) (tE X.K pn W (.sl a l h)) := by
  refine PE.imp (pe_slice (sl_list.or (C8.sl_txt.or sl_tupA)) he hl hh) ?_
  rintro σ H Q ⟨F, α, ρ, μ, h, sl, w⟩
  refine one1 h sl w fun r1 μ1 v1 F1 α1 H1 g1 h1 rv1 p => ?_
  refine ⟨F1, α1, ρ, μ1, h1, sl.mono g1, wpO.imp l p (fun lo μ2 p F2 α2 H2 g2 h2 => ?_) fun _ _ x => x.go g1⟩
  refine ⟨F2, α2, ρ, μ2, h2, sl.mono (g1.trans g2), wpO.imp _ p (fun hi μ3 p F3 α3 H3 g3 h3 => ?_) fun _ _ x => x.go (g1.trans g2)⟩
  obtain ⟨d, e1, p⟩ := opt.of p
  split at p
  · obtain ⟨b, vs, rfl, s1, l1⟩ := h3.items (rv1.mono (g2.trans g3)) e1
    exact .inl ⟨b, vs, rfl, .inl s1, fun q nq => (kD.ofE (g1.trans (g2.trans g3)) _ p).lst h3 nq (l1.cut lo hi)⟩
  · rename_i z
    have rz : R X.K H3 v1 (.str z) := h3.see (rv1.mono (g2.trans g3)) e1
    cases rz
    exact .inr (.inl ⟨z, rfl, by rw [line_eq]; exact p.1, p.2 _ F3 α3 H3 (g1.trans (g2.trans g3)) h3 (R.str _)⟩)
  · obtain ⟨b, vs, rfl, s1, s2, l1⟩ := h3.itemsT (rv1.mono (g2.trans g3)) e1
    refine .inr (.inr ⟨b, vs, rfl, s1, fun hw => ?_, fun _ q nq => (kD.ofE (g1.trans (g2.trans g3)) _ p).tup h3 nq (l1.cut lo hi)⟩)
    have e2 : cutV vs lo hi = vs := by unfold cutV; rw [hw.1, hw.2]; simp
    have l2 := l1.cut lo hi
    rw [e2] at l2
    exact (kD.ofE (g1.trans (g2.trans g3)) _ p).now h3 (.tup s2 l2)
  · exact p.elim
theorem d_rev {e : Expr} {k : Nat} {p1 p2 p3 pos : Pos} {a : E} (he : PE X e (tE X.K pn W a)) : PE X (.Subscript e (.Slice none none (some (.UnaryOp .USub (.Constant (.int 1) k p1) p2)) p3) pos) (tE X.K pn W (.rev a)) := by
  refine PE.imp (pe_revL he) ?_
  rintro σ H Q ⟨F, α, ρ, μ, h, sl, w⟩
  refine one1 h sl w fun r1 μ1 v1 F1 α1 H1 g1 h1 rv1 p => ?_
  obtain ⟨d, e1, p⟩ := opt.of p
  split at p
  · obtain ⟨b, vs, rfl, s1, l1⟩ := h1.items rv1 e1
    exact ⟨b, vs, rfl, .inl s1, fun q nq => (kD.ofE g1 _ p).lst h1 nq l1.reverse⟩
  · exact p.elim
end
end DL

namespace DL
open PySem PySem.Spec PyProof.Rows L2

section
variable {K : PySem.W.Frag} {pn : List (Addr × Obj)} {F F' : Hp} {α α' : Al}
theorem RvR.bare : ∀ {rv : RV} {v : V}, RvR K pn F α rv v → rv.ok = true → RvR K [] F α rv v
  | .dat _, _, h, _ => h
  | .loc _, _, h, _ => h
  | .exc _ _, _, _, e => by cases e
  | .since _ _ _, _, _, e => by cases e
theorem RvR.wide : ∀ {rv : RV} {v : V}, RvR K [] F α rv v → RvR K pn F α rv v
  | .dat _, _, h => h
  | .loc _, _, h => h
  | .exc _ _, _, h => by obtain ⟨a, oe, d, _, h2, _⟩ := h; exact absurd h2 (by simp)
  | .since _ _ _, _, h => h
theorem RvRs.mono (g : Go F F' α α') : ∀ {rs : List RV} {vs : List V}, RvRs K pn F α rs vs → RvRs K pn F' α' rs vs
  | [], [], _ => trivial
  | _ :: _, _ :: _, h => ⟨h.1.mono g, RvRs.mono g h.2⟩
theorem RvRs.dats : ∀ {vs : List V} {ds : List D}, RL K F vs ds → RvRs K pn F α (ds.map .dat) vs
  | _, _, .nil => trivial
  | _, _, .cons h r => ⟨h, RvRs.dats r⟩
theorem RvRs.append : ∀ {rs rs' : List RV} {vs vs' : List V}, RvRs K pn F α rs vs → RvRs K pn F α rs' vs' → RvRs K pn F α (rs ++ rs') (vs ++ vs')
  | [], _, [], _, _, h => h
  | _ :: _, _, _ :: _, _, h, h' => ⟨h.1, RvRs.append h.2 h'⟩
theorem datsOf_rel : ∀ {rs : List RV} {ds : List D} {vs : List V}, datsOf rs = some ds → RvRs K pn F α rs vs → RL K F vs ds
  | [], _, [], e, _ => by cases e; exact .nil
  | .dat d :: rs, ds, v :: vs, e, h => by
    have e : (datsOf rs).map (d :: ·) = some ds := e
    obtain ⟨ds', e1, rfl⟩ := Option.map_eq_some_iff.mp e
    exact .cons h.1 (datsOf_rel e1 h.2)
  | .loc _ :: _, _, _ :: _, e, _ => by cases e
  | .exc _ _ :: _, _, _ :: _, e, _ => by cases e
  | .since _ _ _ :: _, _, _ :: _, e, _ => by cases e
end

section
variable {X : Cx} {W : WX} {pn : List (Addr × Obj)}
theorem da_nil : PA X [] (tAs X.K pn W .nil) := by
  refine PA.imp pa_nil ?_
  rintro σ H Q ⟨F, α, ρ, μ, h, sl, w⟩
  exact w [] F α H .refl h trivial
theorem as_step {σ : L2.St} {H : Hp} {F F1 : Hp} {α α1 : Al} {ρ : Rho} {μ1 : Mu} {Q : List V → Hp → Prop} {r : As} {rv : RV} {v : V} (g1 : Go F F1 α α1) (h1 : Hold X.K F1 H α1 μ1) (sl : Slots X.K pn F α ρ σ) (rv1 : RvR X.K [] F1 α1 rv v)
    (p : wpA r ρ μ1 (fun rs μ3 => kA X.K F α Q (rv :: rs) μ3) (kX X.K F α σ W)) : tAs X.K pn W r σ H fun xs H2 => Q (v :: xs) H2 :=
  ⟨F1, α1, ρ, μ1, h1, sl.mono g1, wpA.imp r p (fun rs m p vs F2 α2 H2 g2 h2 rvs => p (v :: vs) F2 α2 H2 (g1.trans g2) h2 ⟨rv1.mono g2, rvs⟩) fun _ _ x => x.go g1⟩
theorem da_cons {e : Expr} {es : List Expr} {a : E} {r : As} (he : PE X e (tE X.K pn W a)) (hr : PA X es (tAs X.K pn W r)) (hs : starEach (e :: es) X.env = (false, eval e X.env) :: starEach es X.env) : PA X (e :: es) (tAs X.K pn W (.cons a r)) := by
  refine PA.imp (pa_cons he hr hs) ?_
  rintro σ H Q ⟨F, α, ρ, μ, h, sl, w⟩
  refine one1 h sl w fun r1 μ1 v1 F1 α1 H1 g1 h1 rv1 p => ?_
  obtain ⟨⟨d, μ'⟩, e1, p⟩ := opt.of p
  obtain ⟨F2, g2, h2, r2⟩ := h1.freeze rv1 e1
  exact as_step (rv := .dat d) (g1.trans g2) h2 sl r2 p
theorem da_ref {e : Expr} {es : List Expr} {a : E} {r : As} (he : PE X e (tE X.K pn W a)) (hr : PA X es (tAs X.K pn W r)) (hs : starEach (e :: es) X.env = (false, eval e X.env) :: starEach es X.env) : PA X (e :: es) (tAs X.K pn W (.ref a r)) := by
  refine PA.imp (pa_cons he hr hs) ?_
  rintro σ H Q ⟨F, α, ρ, μ, h, sl, w⟩
  refine one1 h sl w fun r1 μ1 v1 F1 α1 H1 g1 h1 rv1 p => ?_
  exact as_step g1 h1 sl (rv1.bare p.1) p.2
theorem da_star {e : Expr} {es : List Expr} {a : E} {r : As} {p : Pos} (he : PE X e (tE X.K pn W a)) (hr : PA X es (tAs X.K pn W r)) (hs : starEach (.Starred e p :: es) X.env = (true, eval e X.env) :: starEach es X.env) : PA X (.Starred e p :: es) (tAs X.K pn W (.star a r)) := by
  refine PA.imp (StX.pa_star he hr hs) ?_
  rintro σ H Q ⟨F, α, ρ, μ, h, sl, w⟩
  refine one1 h sl w fun r1 μ1 v1 F1 α1 H1 g1 h1 rv1 p => ?_
  obtain ⟨d, e1, p⟩ := opt.of p
  have go : ∀ {b : Addr} {vs : List V} {xs : List D}, RL X.K F1 vs xs → wpA r ρ μ1 (fun rs μ3 => kA X.K F α Q (xs.map .dat ++ rs) μ3) (kX X.K F α σ W) → tAs X.K pn W r σ H1 fun ys H2 => Q (vs ++ ys) H2 := fun l p =>
    ⟨F1, α1, ρ, μ1, h1, sl.mono g1, wpA.imp r p (fun rs m p ws F2 α2 H2 g2 h2 rvs => p (_ ++ ws) F2 α2 H2 (g1.trans g2) h2 ((RvRs.dats (l.mono g2.1)).append rvs)) fun _ _ x => x.go g1⟩
  split at p
  · obtain ⟨b, vs, rfl, s1, l1⟩ := h1.items rv1 e1
    exact ⟨b, vs, rfl, .inr (.inl s1), go (b := b) l1 p⟩
  · obtain ⟨b, vs, rfl, s1, _, l1⟩ := h1.itemsT rv1 e1
    exact ⟨b, vs, rfl, .inl s1, go (b := b) l1 p⟩
  · exact p.elim
/-- the reading of arguments -/
theorem asR {σ : L2.St} {H : Hp} {F : Hp} {α : Al} {ρ : Rho} {μ : Mu} {as : As} {P : List RV → Mu → Prop} {Rs : List V → Hp → Prop} (h : Hold X.K F H α μ) (sl : Slots X.K pn F α ρ σ) (w : wpA as ρ μ P (kX X.K F α σ W))
    (f : ∀ rs μ1 vs F1 α1 H1, Go F F1 α α1 → Hold X.K F1 H1 α1 μ1 → RvRs X.K [] F1 α1 rs vs → P rs μ1 → Rs vs H1) : tAs X.K pn W as σ H Rs :=
  ⟨F, α, ρ, μ, h, sl, wpA.imp as w (fun rs m p vs F1 α1 H1 g1 h1 rv => f rs m vs F1 α1 H1 g1 h1 rv p) fun _ _ x => x⟩
theorem d_tup {es : List Expr} {k : Nat} {pos : Pos} {as : As} (ha : PA X es (tAs X.K pn W as)) : PE X (.Tuple es k pos) (tE X.K pn W (.tup as)) := by
  refine PE.imp (pe_tup ha) ?_
  rintro σ H Q ⟨F, α, ρ, μ, h, sl, w⟩
  refine asR h sl w fun rs μ1 vs F1 α1 H1 g1 h1 rv p => ?_
  obtain ⟨ds, e1, hz, p⟩ := opt.of p
  have l := datsOf_rel e1 rv
  exact ⟨by rw [l.length, line_eq]; exact hz, fun q nq => (kD.ofE g1 _ p).tup h1 nq l⟩
theorem d_lst {es : List Expr} {pos : Pos} {as : As} (ha : PA X es (tAs X.K pn W as)) : PE X (.List es pos) (tE X.K pn W (.lst as)) := by
  refine PE.imp (pe_lst ha) ?_
  rintro σ H Q ⟨F, α, ρ, μ, h, sl, w⟩
  refine asR h sl w fun rs μ1 vs F1 α1 H1 g1 h1 rv p => ?_
  obtain ⟨ds, e1, hz, p⟩ := opt.of p
  have l := datsOf_rel e1 rv
  exact ⟨by rw [l.length, line_eq]; exact hz, fun q nq => (kD.ofE g1 _ p).lst h1 nq l⟩

theorem d_lstO {es : List Expr} {pos : Pos} {as : As} (ha : PA X es (tAs X.K pn W as)) : PE X (.List es pos) (tE X.K pn W (.lstO as)) := by
  refine PE.imp (pe_lst ha) ?_
  rintro σ H Q ⟨F, α, ρ, μ, h, sl, w⟩
  refine asR h sl w fun rs μ1 vs F1 α1 H1 g1 h1 rv p => ?_
  obtain ⟨ds, e1, hz, p⟩ := opt.of p
  have l := datsOf_rel e1 rv
  exact ⟨by rw [l.length, line_eq]; exact hz, fun q nq => kE.lst g1 p h1 nq l⟩

def rBi (K : PySem.W.Frag) (f : Bi) : List V → Hp → VK → Prop := fun vs H Q => ∃ F α μ rs ds, Hold K F H α μ ∧ RvRs K [] F α rs vs ∧ vws μ rs = some ds ∧ (match biL f ds with
  | some xs => kD K F α μ (.lst xs) Q
  | none => opt (biD f ds) fun z => kD K F α μ z Q)
def Bi.name : Bi → Str
  | .len => "len" | .all => "all" | .any => "any" | .int => "int" | .list => "list" | .tuple => "tuple" | .str => "str" | .sorted => "sorted" | .sorset => "sorted" | .lenset => "len" | .repr => "repr" | .sum => "sum" | .min => "min"
/-- its value as a name -/
def Bi.val : Bi → Value
  | .len => .builtin "len" | .all => .builtin "all" | .any => .builtin "any" | .int => .type "int" | .list => .type "list" | .tuple => .type "tuple" | .str => .type "str" | .sorted => .builtin "sorted" | .sorset => .builtin "sorted" | .lenset => .builtin "len" | .repr => .builtin "repr" | .sum => .builtin "sum" | .min => .builtin "min"
theorem vws1 {K : PySem.W.Frag} {F H : Hp} {α : Al} {μ : Mu} {rs : List RV} {vs : List V} {d : D} (h : Hold K F H α μ) (r : RvRs K [] F α rs vs) (e : vws μ rs = some [d]) : ∃ rv v, rs = [rv] ∧ vs = [v] ∧ RvR K [] F α rv v ∧ vw μ rv = some d := by
  match rs, vs, r with
  | [], [], _ => cases e
  | rv :: rs, v :: vs, r =>
    have e : ((vw μ rv).bind fun d => (vws μ rs).map (d :: ·)) = some [d] := e
    obtain ⟨d', e1, e⟩ := Option.bind_eq_some_iff.mp e
    obtain ⟨ds', e2, e⟩ := Option.map_eq_some_iff.mp e
    cases e
    match rs, vs, r with
    | [], [], r => exact ⟨rv, v, rfl, rfl, r.1, e1⟩
    | rv' :: rs, v' :: vs, r =>
      have e2 : ((vw μ rv').bind fun d => (vws μ rs).map (d :: ·)) = some [] := e2
      obtain ⟨d', e3, e2⟩ := Option.bind_eq_some_iff.mp e2
      obtain ⟨ds', e4, e2⟩ := Option.map_eq_some_iff.mp e2
      cases e2
theorem bls_rel {K : PySem.W.Frag} {F : Hp} : ∀ {ds : List D} {bs : List Bool} {vs : List V}, blsD ds = some bs → RL K F vs ds → vs = bs.map V.bl
  | [], _, _, e, .nil => by cases e; rfl
  | .bl b :: ds, _, _, e, .cons h r => by
    have e : (blsD ds).map (b :: ·) = some _ := e
    obtain ⟨bs', e1, rfl⟩ := Option.map_eq_some_iff.mp e
    cases h
    rw [bls_rel e1 r]; rfl
theorem ints_rel {K : PySem.W.Frag} {F : Hp} : ∀ {ds : List D} {bs : List Int} {vs : List V}, intsD ds = some bs → RL K F vs ds → vs = bs.map V.int
  | [], _, _, e, .nil => by cases e; rfl
  | .int b :: ds, _, _, e, .cons h r => by
    have e : (intsD ds).map (b :: ·) = some _ := e
    obtain ⟨bs', e1, rfl⟩ := Option.map_eq_some_iff.mp e
    cases h
    rw [ints_rel e1 r]; rfl
theorem strs_rel {K : PySem.W.Frag} {F : Hp} : ∀ {ds : List D} {bs : List Str} {vs : List V}, strsD ds = some bs → RL K F vs ds → vs = bs.map V.str
  | [], _, _, e, .nil => by cases e; rfl
  | .str b :: ds, _, _, e, .cons h r => by
    have e : (strsD ds).map (b :: ·) = some _ := e
    obtain ⟨bs', e1, rfl⟩ := Option.map_eq_some_iff.mp e
    cases h
    rw [strs_rel e1 r]; rfl
theorem chs_rel (K : PySem.W.Frag) (F : Hp) : ∀ cs : List Nat, RL K F (cs.map fun c => V.str ⟨#[c]⟩) (cs.map chD)
  | [] => .nil
  | _ :: cs => .cons (.str _) (chs_rel K F cs)
theorem call_listS (hc : X.calm = true) : CallR X (.type "list") (fun xs H Q => ∃ z : Str, xs = [.str z] ∧ z.length ≤ sizeLine ∧ ∀ l, H l = none → Q (.ref l) (upd H l (.lst (z.cps.toList.map fun c => V.str ⟨#[c]⟩)))) := by
  intro pins s σ H xs us Q I r h
  obtain ⟨z, rfl, hz, q⟩ := h
  obtain ⟨u, rfl, rx⟩ := vals1 r
  obtain ⟨t, rfl⟩ := rx
  refine call_list_str (I.ok.hd hc) z t (fun h' tk acc c' hk e hi => ?_) hz
  have hv : Vals (z.cps.toList.map fun c => V.str ⟨#[c]⟩) acc.toList := by
    have key : ∀ (cs : List Nat) (us : List Value), cs.length = us.length → (∀ (j : Nat) (u : Value), us[j]? = some u → ∃ c t, cs[j]? = some c ∧ u = Value.str ⟨#[c]⟩ t) → Vals (cs.map fun c => V.str ⟨#[c]⟩) us := by
      intro cs
      induction cs with
      | nil => intro us hl _; cases us with | nil => exact .nil | cons _ _ => cases hl
      | cons c cs ih =>
        intro us hl f
        cases us with
        | nil => cases hl
        | cons u us =>
          obtain ⟨c', t, e1, e2⟩ := f 0 u rfl
          simp at e1
          subst e1
          exact .cons ⟨t, e2⟩ (ih us (by simpa using hl) fun j u e => by simpa using f (j + 1) u (by simpa using e))
    refine key _ _ (by simp [hi.1]) fun j u e => ?_
    obtain ⟨c, t, e1, e2⟩ := hi.2 j u (by simpa using e)
    exact ⟨c, t, by simpa using e1, e2⟩
  refine ⟨.ref s.heap.objs.size, _, I.laid (t' := tk) hk (Nat.le_refl _) (show ObjOk X.prog X.w _ h' _ (.lst _) from ⟨by rw [List.length_map, Array.length_toList]; exact hz, acc.toList, c', hv, by simpa using e⟩), rfl, q _ (I.hok.fresh (Nat.le_refl _))⟩
theorem call_listO (hc : X.calm = true) : CallR X (.type "list") (fun vs H Q => ∃ F F1 α α1 μ rs ds xs, Go F F1 α α1 ∧ Hold X.K F1 H α1 μ ∧ RvRs X.K [] F1 α1 rs vs ∧ vws μ rs = some ds ∧ biL .list ds = some xs ∧ kE X.K pn F α Q (.loc μ.length) (μ ++ [.lst xs])) := by
  intro pins s σ H vs us Q I r h
  obtain ⟨F0, F, α0, α, μ, rs, ds, xs, g, hd, rr, ev, e, h⟩ := h
  have one : ∀ {d : D}, ds = [d] → ∃ rv v, rs = [rv] ∧ vs = [v] ∧ RvR X.K [] F α rv v ∧ vw μ rv = some d := fun e => vws1 hd rr (by rw [ev, e])
  unfold biL at e
  split at e
  · cases e
    obtain ⟨rv, v, rfl, rfl, r1, e1⟩ := one rfl
    obtain ⟨a, ws, rfl, s1, l1⟩ := hd.items r1 e1
    exact call_list_of pins s σ H _ us Q I r ⟨a, ws, rfl, .inl (.inl s1), fun l nl => kE.lst g h hd nl l1⟩
  · cases e
    obtain ⟨rv, v, rfl, rfl, r1, e1⟩ := one rfl
    obtain ⟨a, ws, rfl, s1, _, l1⟩ := hd.itemsT r1 e1
    exact call_list_of pins s σ H _ us Q I r ⟨a, ws, rfl, .inr s1, fun l nl => kE.lst g h hd nl l1⟩
  · split at e
    · rename_i hz
      cases e
      obtain ⟨rv, v, rfl, rfl, r1, e1⟩ := one rfl
      have := hd.see r1 e1
      cases this
      exact call_listS hc pins s σ H _ us Q I r ⟨_, rfl, by rw [line_eq]; omega, fun l nl => kE.lst g h hd nl (chs_rel _ _ _)⟩
    · cases e
  · first | contradiction | (rename_i h1 _; cases h1) | (rename_i h1; cases h1)
  · cases e
theorem strs_rl (K : PySem.W.Frag) (F : Hp) : ∀ ss : List Str, RL K F (ss.map V.str) (ss.map D.str)
  | [] => .nil
  | x :: ss => .cons (.str x) (strs_rl K F ss)
/-- those that may be called in an except suite -/
def Bi.hot : Bi → Bool
  | .len | .repr | .int | .str | .tuple => true
  | _ => false
theorem call_bi {f : Bi} (hc : f.hot = false → X.calm = true) (hu : X.A.units + 64 < cLine) (hg : X.A.guards = some []) : CallR X f.val (rBi X.K f) := by
  intro pins s σ H vs us Q I r h
  obtain ⟨F, α, μ, rs, ds, hd, rr, ev, h⟩ := h
  have one : ∀ {d : D}, ds = [d] → ∃ rv v, rs = [rv] ∧ vs = [v] ∧ RvR X.K [] F α rv v ∧ vw μ rv = some d := fun e => vws1 hd rr (by rw [ev, e])
  split at h
  · rename_i xs e
    unfold biL at e
    split at e
    · cases e
      obtain ⟨rv, v, rfl, rfl, r1, e1⟩ := one rfl
      obtain ⟨a, ws, rfl, s1, l1⟩ := hd.items r1 e1
      exact call_list_of pins s σ H _ us Q I r ⟨a, ws, rfl, .inl (.inl s1), fun l nl => h.lst hd nl l1⟩
    · cases e
      obtain ⟨rv, v, rfl, rfl, r1, e1⟩ := one rfl
      obtain ⟨a, ws, rfl, s1, _, l1⟩ := hd.itemsT r1 e1
      exact call_list_of pins s σ H _ us Q I r ⟨a, ws, rfl, .inr s1, fun l nl => h.lst hd nl l1⟩
    · split at e
      · rename_i hz
        cases e
        obtain ⟨rv, v, rfl, rfl, r1, e1⟩ := one rfl
        have := hd.see r1 e1
        cases this
        exact call_listS (hc rfl) pins s σ H _ us Q I r ⟨_, rfl, by rw [line_eq]; omega, fun l nl => h.lst hd nl (chs_rel _ _ _)⟩
      · cases e
    · obtain ⟨ss, e2, rfl⟩ := Option.map_eq_some_iff.mp e
      obtain ⟨rv, v, rfl, rfl, r1, e1⟩ := one rfl
      obtain ⟨a, ws, rfl, s1, l1⟩ := hd.items r1 e1
      cases strs_rel e2 l1
      exact cr_sortS hu pins s σ H _ us Q I r ⟨a, ss, rfl, .inl s1, fun l nl => h.lst hd nl (strs_rl _ _ _)⟩
    · cases e
  · obtain ⟨z, e, h⟩ := opt.of h
    unfold biD at e
    split at e
    · cases e
      obtain ⟨rv, v, rfl, rfl, r1, e1⟩ := one rfl
      obtain ⟨a, ws, rfl, s1, l1⟩ := hd.items r1 e1
      refine call_len_seq pins s σ H _ us Q I r ⟨a, ws, rfl, .inl (.inl s1), ?_⟩
      rw [l1.length]; exact h.now hd (.int _)
    · cases e
      obtain ⟨rv, v, rfl, rfl, r1, e1⟩ := one rfl
      obtain ⟨a, ws, rfl, s1, _, l1⟩ := hd.itemsT r1 e1
      refine call_len_seq pins s σ H _ us Q I r ⟨a, ws, rfl, .inr s1, ?_⟩
      rw [l1.length]; exact h.now hd (.int _)
    · split at e
      · rename_i hz
        cases e
        obtain ⟨rv, v, rfl, rfl, r1, e1⟩ := one rfl
        have := hd.see r1 e1
        cases this
        exact call_len_str pins s σ H _ us Q I r ⟨_, rfl, by rw [line_eq]; exact hz, h.now hd (.int _)⟩
      · cases e
    · obtain ⟨bs, e2, rfl⟩ := Option.map_eq_some_iff.mp e
      obtain ⟨rv, v, rfl, rfl, r1, e1⟩ := one rfl
      obtain ⟨a, ws, rfl, s1, l1⟩ := hd.items r1 e1
      cases bls_rel e2 l1
      exact cr_all (hc rfl) pins s σ H _ us Q I r ⟨a, bs, rfl, .inl s1, h.now hd (.bl _)⟩
    · obtain ⟨bs, e2, rfl⟩ := Option.map_eq_some_iff.mp e
      obtain ⟨rv, v, rfl, rfl, r1, e1⟩ := one rfl
      obtain ⟨a, ws, rfl, s1, l1⟩ := hd.items r1 e1
      cases bls_rel e2 l1
      exact cr_any (hc rfl) pins s σ H _ us Q I r ⟨a, bs, rfl, .inl s1, h.now hd (.bl _)⟩
    · cases e
      obtain ⟨rv, v, rfl, rfl, r1, e1⟩ := one rfl
      have := hd.see r1 e1
      cases this
      exact call_int1 pins s σ H _ us Q I r (.inl ⟨_, rfl, h.now hd (.int _)⟩)
    · cases e
      obtain ⟨rv, v, rfl, rfl, r1, e1⟩ := one rfl
      have := hd.see r1 e1
      cases this
      exact call_int1 pins s σ H _ us Q I r (.inr ⟨_, rfl, h.now hd (.int _)⟩)
    · cases e
      obtain ⟨rv, v, rfl, rfl, r1, e1⟩ := one rfl
      have := hd.see r1 e1
      cases this
      exact SkE.call_str_str pins s σ H _ us Q I r ⟨_, rfl, h.now hd (.str _)⟩
    · obtain ⟨t, e2, rfl⟩ := Option.map_eq_some_iff.mp e
      obtain ⟨rv, v, rfl, rfl, r1, e1⟩ := one rfl
      exact cr_strT hu hg pins s σ H _ us Q I r ⟨v, _, t, rfl, hd.see r1 e1, e2, h.now hd (.str _)⟩
    · obtain ⟨bs, e2, e3⟩ := Option.bind_eq_some_iff.mp e
      obtain ⟨m, e4, rfl⟩ := Option.map_eq_some_iff.mp e3
      obtain ⟨rv, v, rfl, rfl, r1, e1⟩ := one rfl
      obtain ⟨a, ws, rfl, s1, l1⟩ := hd.items r1 e1
      cases ints_rel e2 l1
      refine cr_min (hc rfl) pins s σ H _ us Q I r ⟨a, bs, rfl, .inl s1, ?_, fun m' hm hle => ?_⟩
      · cases bs with
        | nil => cases e4
        | cons _ _ => simp
      · have q := List.min?_eq_some_iff.mp e4
        have : m' = m := Int.le_antisymm (hle _ q.1) (q.2 _ hm)
        subst this
        exact h.now hd (.int _)
    · cases e
      obtain ⟨rv, v, rfl, rfl, r1, e1⟩ := one rfl
      obtain ⟨a, ws, rfl, s1, s2, l1⟩ := hd.itemsT r1 e1
      exact call_tuple_of pins s σ H _ us Q I r ⟨a, ws, rfl, .inr ⟨s1, h.now hd (.tup s2 l1)⟩⟩
    · cases e
      obtain ⟨rv, v, rfl, rfl, r1, e1⟩ := one rfl
      obtain ⟨a, ws, rfl, s1, l1⟩ := hd.items r1 e1
      exact call_tuple_of pins s σ H _ us Q I r ⟨a, ws, rfl, .inl ⟨.inl s1, fun l nl => h.tup hd nl l1⟩⟩
    · obtain ⟨bs, e2, rfl⟩ := Option.map_eq_some_iff.mp e
      obtain ⟨rv, v, rfl, rfl, r1, e1⟩ := one rfl
      obtain ⟨a, ws, rfl, s1, l1⟩ := hd.items r1 e1
      cases ints_rel e2 l1
      exact cr_sum (hc rfl) pins s σ H _ us Q I r ⟨a, bs, rfl, .inl s1, h.now hd (.int _)⟩
    · obtain ⟨t, e2, rfl⟩ := Option.map_eq_some_iff.mp e
      obtain ⟨rv, v, rfl, rfl, r1, e1⟩ := one rfl
      exact cr_repr hu hg pins s σ H _ us Q I r ⟨v, _, t, rfl, hd.see r1 e1, e2, h.now hd (.str _)⟩
    · cases e
end
end DL

namespace DL
open PySem PySem.Spec PyProof.Rows L2

/-- room, and no repr under way -/
structure Room (k : Nat) (A : Around) : Prop extends L2.Room k A where
  gd : A.guards = some []
theorem Room.mono {j k : Nat} {A : Around} (r : Room k A) (h : j ≤ k) : Room j A := ⟨L2.Room.mono r.toRoom h, r.gd⟩
theorem Room.deeper {k : Nat} {A : Around} (r : Room (k + 1) A) (env : Env) : Room k (A.deeper env) := ⟨L2.Room.deeper r.toRoom env, r.gd⟩
theorem Room.in1 {k : Nat} {A : Around} (r : Room (k + 1) A) : Room k A.in1 := ⟨L2.Room.in1 r.toRoom, r.gd⟩
theorem make_guards {A : Around} {C : Addr} {us : List Value} {kw : List (Str × Value)} : (A.under (.builtin "type.__call__" ⟨.ref C :: us, kw⟩)).guards = A.guards := by
  have e : (Code.builtin "type.__call__" ⟨.ref C :: us, kw⟩).isGuard = false := by first | rfl | simp [Code.isGuard, guardIds]
  unfold Around.under
  simp only [Code.guards, e, Bool.false_eq_true, if_false]
  cases A.guards <;> rfl
theorem Room.make {k : Nat} {A : Around} (r : Room (k + 1) A) (C : Addr) (us : List Value) (kw : List (Str × Value)) : Room k (A.under (.builtin "type.__call__" ⟨.ref C :: us, kw⟩)) :=
  ⟨L2.Room.make r.toRoom C us kw, make_guards.trans r.gd⟩
def FnR (P : Program) (w : World) (K : PySem.W.Frag) (mg : Str → Option Value) (base : Heap) (CX : CXT) (k : Nat) (f : Addr) (sp : Sp) : Prop :=
  ∀ (A : Around) (outer : List Env) (s : Shared) (H : Hp) (us : List Value) (vs : List V) (Q : VK) (E : XK), Room k A → Env0 P w K mg base A outer s H → Vals vs us → sp vs H Q E →
    codeAny (model P w) A (.call (.ref f) ⟨us, []⟩) (CR CX outer P w H s Q E) s
structure FnOk (P : Program) (w : World) (K : PySem.W.Frag) (mg : Str → Option Value) (base : Heap) (CX : CXT) (k : Nat) (f : Addr) (fd : FuncData) (ps : List Str) (sp : Sp) : Prop where
  len : ∀ vs H Q E, sp vs H Q E → vs.length = ps.length
  run : ∀ (A : Around) (outer : List Env) (s : Shared) (H : Hp) (args : Args) (us : List Value) (vs : List V) (Q : VK) (E : XK), Room k A → Env0 P w K mg base A outer s H → BindsTo s fd args (ps.zip us) → Vals vs us → sp vs H Q E →
    codeAny (model P w) A (.call (.ref f) args) (CR CX outer P w H s Q E) s
theorem FnR.mono {P : Program} {w : World} {K : PySem.W.Frag} {mg : Str → Option Value} {base : Heap} {CX : CXT} {j k : Nat} {f : Addr} {sp : Sp} (F : FnR P w K mg base CX j f sp) (h : j ≤ k) : FnR P w K mg base CX k f sp :=
  fun A outer s H us vs Q E hr => F A outer s H us vs Q E (hr.mono h)
/-- a def by its body -/
theorem fun_ok {CX : CXT} {P : Program} {w : World} {K : PySem.W.Frag} {mg : Str → Option Value} {base : Heap} {x qual : Str} {params : Arguments} {body : List Stmt} {scope : Scope} {dvs : List V} {kws : List (Str × V)} {f : Addr} {fd : FuncData} {N ps : List Str} {k : Nat} {sp : Sp}
    (F : FunD K x qual params body scope dvs kws f fd) (S : FnScope N ps scope) (len : ∀ vs H Q E, sp vs H Q E → vs.length = ps.length)
    (hbody : ∀ (cdv : Value) (A : Around) (outer : List Env) (s : Shared) (H : Hp) (vs : List V) (Q : VK) (E : XK), Room k (A.deeper (envOfC qual scope s.heap.objs.size f cdv)) → sp vs H Q E →
      ∃ t, PSs (cxOf CX P w K mg base N qual scope f cdv A outer s H E) body t ∧ t { nx := fun _ H' => Q .non H', rt := Q } (start N vs) H) : FnOk P w K mg base CX (k + 1) f fd ps sp := by
  obtain ⟨oc, od, dV, kV, doc, pm, an, cdv, ct, osl, rfl, lk, hcd, _, _⟩ := F.ex
  refine ⟨len, fun A outer s H args us vs Q E room e0 bnd rel holds => ?_⟩
  have kin : K.In s.heap := e0.mod.kin.keeps fun b o e => (e0.bs b o e).1
  refine codeAny_call_function room.depth (kin _ _ lk) rfl S.co S.gen rfl (PySem.W.codeRec_of kin hcd) (bnd _ _ _ _ ?_)
  refine wpAny_newFunctionEnv_cells S.kind (fun y hy => ?_) fun env he s1 x => ?_
  · rcases S.par y.1 (List.of_mem_zip (a := y.1) (b := y.2) hy).1 with q | q
    · exact .inl q
    · exact .inr ⟨q, PySem.W.cellsFrom_some _ _ _ (.inl q)⟩
  subst he
  refine ⟨(e0.mod.nolimit.keeps fun b o e => (e0.bs b o e).1).keeps x.toInCall.keep, codeAny_func ?_⟩
  obtain ⟨t, ht, hq⟩ := hbody cdv A outer s H vs Q E (room.deeper _) holds
  have I : Inv (cxOf CX P w K mg base N qual scope f cdv A outer s H E) [] (start N vs) H s1 := inv_start S room.hd e0 (len _ _ _ _ holds) rel x
  refine wpAny_mono (ht.run [] s1 (start N vs) H _ I hq) (fun fl s' hs => ?_) fun e s' hs => hs
  cases fl with
  | ret u =>
    obtain ⟨v, σ', H', J, rv, q⟩ := hs
    exact ⟨v, H', J.os, J.bare, J.base, J.hok, rv, q⟩
  | next =>
    obtain ⟨σ', H', J, q⟩ := hs
    exact ⟨.non, H', J.os, J.bare, J.base, J.hok, rfl, q⟩
  | brk => obtain ⟨_, _, _, q⟩ := hs; exact q.elim
  | cont => obtain ⟨_, _, _, q⟩ := hs; exact q.elim
/-- a def f(a, .., *v) by its body -/
theorem star_ok {CX : CXT} {P : Program} {w : World} {K : PySem.W.Frag} {mg : Str → Option Value} {base : Heap} {k : Nat} {f : Addr} {name qual : Str} {params : Arguments} {body : List Stmt} {scope : Scope} {dV kV doc pm cdv ct oc : Value} {an od : Option Addr}
    {osl : Array (Option Value)} {N ps : List Str} {sp : Sp} {pv : Str} (lk : K.lookup f = some ⟨oc, od, .func (PySem.W.fnOf name qual params body scope dV kV doc pm an cdv ct), osl⟩) (hcd : PySem.W.codeIn K cdv qual = true) (S : FnScope N (ps ++ [pv]) scope) (hCX : StX.CXUp CX)
    (hb : ∀ us rest : List Value, us.length = ps.length → bindArgs (PySem.W.fnOf name qual params body scope dV kV doc pm an cdv ct) ⟨us ++ rest, []⟩ = (newTuple rest >>= fun t => pure (ps.zip us ++ [(pv, t)])))
    (hbody : ∀ (A : Around) (outer : List Env) (s : Shared) (H : Hp) (vs : List V) (Q : VK) (E : XK), Room k (A.deeper (envOfC qual scope s.heap.objs.size f cdv)) → sp vs H Q E →
      ∃ t, PSs (cxOf CX P w K mg base N qual scope f cdv A outer s H E) body t ∧ t { nx := fun _ H' => Q .non H', rt := Q } (start N vs) H) :
    FnR P w K mg base CX (k + 1) f (fun vs H Q E => ∃ ws rest, vs = ws ++ rest ∧ ws.length = ps.length ∧ rest.length ≤ sizeLine ∧ ∀ p, H p = Option.none → sp (ws ++ [V.ref p]) (upd H p (.tup rest)) Q E) := by
  intro A outer s H us vs Q E room e0 rel holds
  obtain ⟨ws, rest, rfl, hl, hz, hq⟩ := holds
  obtain ⟨u1, u2, rfl, r1, r2⟩ := StX.vals_split rel
  have new : H s.heap.objs.size = Option.none := e0.hok.fresh (Nat.le_refl _)
  have l1 : u1.length = ps.length := r1.length.symm.trans hl
  refine StX.run_bnd lk hcd S room.toRoom e0 (G := fun xs H2 => ∃ p, H p = Option.none ∧ xs = ws ++ [V.ref p] ∧ H2 = upd H p (.tup rest)) (fun A' Ex Q' h => ?_) fun s2 H2 xs ⟨p, hp, ex, eH⟩ hr' => ?_
  · rw [hb u1 u2 l1]
    refine wpAny_bind (wpAny_newTuple (wpAny_pure ?_) (by rw [← r2.length]; exact hz))
    have laid : ObjOk P w (upd H s.heap.objs.size (.tup rest)) (s.heap.push ({ cls := .type "tuple", data := .seq u2.toArray } : Obj)) s.heap.objs.size (.tup rest) := ⟨hz, u2, r2, ⟨_, Heap.get?_push_size _ rfl, rfl, _, rfl⟩⟩
    have un := StX.un_laid (fs := frs outer) (s := s) (o := ({ cls := .type "tuple", data := .seq u2.toArray } : Obj)) (u := .tup rest) new
    have z := h _ _ (ws ++ [V.ref s.heap.objs.size]) (u1 ++ [Value.ref s.heap.objs.size]) (StX.env0_laid e0 laid) un rfl (fun e s' => hCX outer s H _ _ E e s' un (fun b o q => Heap.get?_push_of_some _ q) rfl) (r1.append (.cons rfl .nil))
      (by rw [List.length_append, List.length_append, hl] <;> rfl) ⟨_, new, rfl, rfl⟩
    rw [List.zip_append l1.symm] at z
    exact z
  · subst ex eH
    exact hbody A outer s2 _ _ Q E ⟨hr', room.gd⟩ (hq p hp)
/-- what a law's call ends in -/
abbrev EndT (s1 : Shared) (r : Result) (s' : Shared) : Prop := r = .ok (.ret (.bool true)) ∧ OldK s1.heap s'.heap ∧ s'.os = s1.os ∧ AllBare s'.gens
section
variable {P : Program} {w : World} {K : PySem.W.Frag} {mg mb : Str → Option Value} {CX : CXT} {k : Nat} {fa a : Addr} {fd : FuncData} {x : Str} {sp : Sp} {s1 : Shared} {vs : List Value} {ns : List Int}
/-- the law called from a heap H in which at most the script is tracked, and only as it stands -/
theorem law_from {H : Hp} (KX : K.In s1.heap) (hns : s1.heap.Ns mainGlobals mg) (hb : s1.heap.Ns builtinsNs mb) (hbb : ∀ x : Str, x ≠ "__name__" → mb x = bootBuiltins x) (hlim : s1.heap.NoLimit) (hg : s1.gens = #[])
    (hok : HOk P w H s1.heap) (only : ∀ b, H b ≠ none → (∃ ob xs, H b = some (.frz ob (.lst xs))) ∧ K.lookup b = none ∧ ∃ o its n, s1.heap.get? b = some o ∧ o.data = .seq its n) (hr : Room k callerA)
    (F : ∀ base : Heap, K.In base → base.Ns mainGlobals mg → FnOk P w K mg base CX k fa fd [x] sp) (hbind : ∀ (s : Shared) (u : Value), BindsTo s fd ⟨[u], []⟩ [(x, u)])
    (hsp : sp [.ref a] H (fun v _ => v = .bl true) fun _ _ _ => False) (hCX : ∀ e s', CX [] H s1 (fun _ _ _ => False) e s' → False) : codeAny (model P w) callerA (.call (.ref fa) ⟨[.ref a], []⟩) (EndT s1) s1 := by
  have out : ∀ {b : Addr} {o : Obj} {es : Array DictEntry} {ep : Nat}, s1.heap.get? b = some o → o.data = .dict es ep → H b = none := fun {b o es ep} e d => Classical.byContradiction fun n => by
    obtain ⟨_, _, o', its, n', e1, e2⟩ := only b n
    rw [e] at e1
    cases e1
    rw [d] at e2
    cases e2
  have ns_ : ∀ {b : Addr} {m : Str → Option Value}, s1.heap.Ns b m → (hidT s1.heap H).Ns b m := fun {b m} ⟨o, es, ep, e, d, r⟩ => ⟨o, es, ep, hidT_get e (out e d), d, r⟩
  have kin : K.In (hidT s1.heap H) := fun b o e => hidT_get (KX b o e) (Classical.byContradiction fun n => by
    have z := (only b n).2.1
    rw [z] at e
    cases e)
  obtain ⟨mc, l1, l2⟩ := hlim
  have mod : Mod K mg (hidT s1.heap H) := ⟨kin, ns_ hns, ⟨mb, ns_ hb, hbb⟩, ⟨mc, ns_ l1, l2⟩⟩
  have e0 : Env0 P w K mg (hidT s1.heap H) callerA [] s1 H := ⟨rfl, mod, fun b o e => of_hidT e, Nat.le_of_eq (hidT_size _ _), trivial, (fun b z => by cases (show b ∈ ([] : List Addr) from z)), hok, .of_eq hg⟩
  refine codeAny_mono ((F _ kin (ns_ hns)).run callerA [] s1 H ⟨[.ref a], []⟩ [.ref a] [.ref a] _ _ hr e0 (hbind s1 (.ref a)) (.cons rfl .nil) hsp) fun r s' h => ?_
  cases r with
  | error e => exact (hCX e s' h).elim
  | ok fl =>
    cases fl with
    | next => exact False.elim h
    | brk => exact False.elim h
    | cont => exact False.elim h
    | ret u =>
      obtain ⟨v, H', os, bare, un, hok', rel, q⟩ := h
      obtain rfl : v = .bl true := q
      obtain rfl : u = Value.bool true := rel
      refine ⟨rfl, OldK.of_keep fun b o e => ?_, os, bare⟩
      by_cases n : H b = none
      · exact un.keep b o e n (fun z => by cases (show b ∈ ([] : List Addr) from z)) (by simp)
      · obtain ⟨⟨ob, xs, z⟩, _⟩ := only b n
        obtain ⟨e1, _⟩ := hok b _ z
        obtain ⟨e2, _⟩ := hok' b _ (un.frzs b ob _ z)
        rw [e] at e1
        cases e1
        exact e2
theorem law_run (KX : K.In s1.heap) (hns : s1.heap.Ns mainGlobals mg) (hb : s1.heap.Ns builtinsNs mb) (hbb : ∀ x : Str, x ≠ "__name__" → mb x = bootBuiltins x) (hlim : s1.heap.NoLimit) (hg : s1.gens = #[])
    (ha : s1.heap.get? a = some { cls := .type "list", data := .seq vs.toArray }) (hi : IntsAre vs ns) (hl : ns.length ≤ sizeLine) (hr : Room k callerA)
    (F : ∀ base : Heap, K.In base → base.Ns mainGlobals mg → FnOk P w K mg base CX k fa fd [x] sp) (hbind : ∀ (s : Shared) (u : Value), BindsTo s fd ⟨[u], []⟩ [(x, u)])
    (hsp : ∀ H : Hp, SqL K H a (ns.map V.int) → sp [.ref a] H (fun v _ => v = .bl true) fun _ _ _ => False) (hCX : ∀ H e s', CX [] H s1 (fun _ _ _ => False) e s' → False) : codeAny (model P w) callerA (.call (.ref fa) ⟨[.ref a], []⟩) (EndT s1) s1 := by
  have rel := vals_ints hi
  cases hk : K.lookup a with
  | some o =>
    have e := KX a o hk
    rw [ha] at e
    cases e
    refine law_from (H := fun _ => none) KX hns hb hbb hlim hg (fun b u z => by cases (show (none : Option HO) = some u from z)) (fun b z => absurd rfl z) hr F hbind (hsp _ (.inr ⟨_, vs.toArray, _, hk, rfl, rfl, rfl, ?_, ?_⟩)) (hCX _)
    · rw [List.size_toArray, hi.length]; exact hl
    · simpa using rel
  | none =>
    have at_ : ∀ {b : Addr} {u : HO}, (if b = a then some (HO.frz { cls := .type "list", data := .seq vs.toArray } (.lst (ns.map V.int))) else none) = some u → b = a ∧ u = HO.frz { cls := .type "list", data := .seq vs.toArray } (.lst (ns.map V.int)) := fun {b u} z => by
      split at z
      · rename_i e; cases z; exact ⟨e, rfl⟩
      · cases z
    refine law_from (H := fun b => if b = a then some (.frz { cls := .type "list", data := .seq vs.toArray } (.lst (ns.map V.int))) else none) KX hns hb hbb hlim hg (fun b u z => ?_) (fun b z => ?_) hr F hbind (hsp _ (.inl (.inr ⟨_, if_pos rfl⟩))) (hCX _)
    · obtain ⟨rfl, rfl⟩ := at_ z
      exact ⟨ha, by rw [List.length_map]; exact hl, vs, _, rel, ha⟩
    · obtain ⟨u, e⟩ := Option.ne_none_iff_exists'.mp z
      obtain ⟨rfl, rfl⟩ := at_ e
      exact ⟨⟨_, _, e⟩, hk, _, _, _, ha, rfl⟩
end
end DL

namespace DL
open PySem PySem.Spec PyProof.Rows L2

section
variable {X : Cx} {W : WX} {pn : List (Addr × Obj)}
theorem bi_conv {f : Bi} {as : As} {σ : L2.St} {H : Hp} {Q : VK} (q : tE X.K pn W (.bi f as) σ H Q) : tCB (rBi X.K f) (tAs X.K pn W as) σ H Q := by
  obtain ⟨F, α, ρ, μ, h, sl, w⟩ := q
  refine asR h sl w fun rs μ1 vs F1 α1 H1 g1 h1 rv p => ?_
  obtain ⟨ds, e1, p⟩ := opt.of p
  refine ⟨F1, α1, μ1, rs, ds, h1, rv, e1, ?_⟩
  cases q : biL f ds with
  | some xs => rw [q] at p; exact kD.ofE g1 _ p
  | none => rw [q] at p; exact opt.imp p fun z p => kD.ofE g1 _ p
theorem d_bi {f : Bi} (hc : f.hot = false → X.calm = true) (hu : X.A.units + 64 < cLine) (hgd : X.A.guards = some []) {p pos : Pos} {e : Expr} {es : List Expr} {as : As} (hf : f ≠ .sorset ∧ f ≠ .lenset) (hg : Gl X f.name) (hm : X.mg f.name = none) (ha : PA X (e :: es) (tAs X.K pn W as))
    (he : starEach (e :: es) X.env = (false, eval e X.env) :: starEach es X.env) (hpl : (backTo pos (starEach es X.env)).any (·.1) = false) : PE X (.Call (.Name f.name p) (e :: es) [] pos) (tE X.K pn W (.bi f as)) := by
  cases f with
  | len => exact PE.imp (pe_callB (call_bi (f := .len) hc hu hgd) hg hm PySem.boot_len ha (by decide) (by decide) he hpl) fun σ H Q q => bi_conv q
  | all => exact PE.imp (pe_callB (call_bi (f := .all) hc hu hgd) hg hm PyProof.Rows.boot_all ha (by decide) (by decide) he hpl) fun σ H Q q => bi_conv q
  | any => exact PE.imp (pe_callB (call_bi (f := .any) hc hu hgd) hg hm PyProof.Rows.boot_any ha (by decide) (by decide) he hpl) fun σ H Q q => bi_conv q
  | int => exact PE.imp (pe_callTy (call_bi (f := .int) hc hu hgd) hg hm PyProof.Rows.boot_int ha (by decide) (by decide) he hpl) fun σ H Q q => bi_conv q
  | list => exact PE.imp (pe_callTy (call_bi (f := .list) hc hu hgd) hg hm PyProof.Rows.boot_list ha (by decide) (by decide) he hpl) fun σ H Q q => bi_conv q
  | tuple => exact PE.imp (pe_callTy (call_bi (f := .tuple) hc hu hgd) hg hm PyProof.Rows.boot_tuple ha (by decide) (by decide) he hpl) fun σ H Q q => bi_conv q
  | str => exact PE.imp (pe_callTy (call_bi (f := .str) hc hu hgd) hg hm PyProof.Rows.boot_str ha (by decide) (by decide) he hpl) fun σ H Q q => bi_conv q
  | sorted => exact PE.imp (pe_callB (call_bi (f := .sorted) hc hu hgd) hg hm PyProof.Rows.boot_sorted ha (by decide) (by decide) he hpl) fun σ H Q q => bi_conv q
  | repr => exact PE.imp (pe_callB (call_bi (f := .repr) hc hu hgd) hg hm PyProof.Rows.boot_repr ha (by decide) (by decide) he hpl) fun σ H Q q => bi_conv q
  | sum => exact PE.imp (pe_callB (call_bi (f := .sum) hc hu hgd) hg hm PyProof.Rows.boot_sum ha (by decide) (by decide) he hpl) fun σ H Q q => bi_conv q
  | min => exact PE.imp (pe_callB (call_bi (f := .min) hc hu hgd) hg hm PyProof.Rows.boot_min ha (by decide) (by decide) he hpl) fun σ H Q q => bi_conv q
  | sorset => exact absurd rfl hf.1
  | lenset => exact absurd rfl hf.2

theorem d_listO (hc : X.calm = true) {p pos : Pos} {e : Expr} {es : List Expr} {as : As} (hg : Gl X "list") (hm : X.mg "list" = none) (ha : PA X (e :: es) (tAs X.K pn W as))
    (he : starEach (e :: es) X.env = (false, eval e X.env) :: starEach es X.env) (hpl : (backTo pos (starEach es X.env)).any (·.1) = false) : PE X (.Call (.Name "list" p) (e :: es) [] pos) (tE X.K pn W (.listO as)) := by
  refine PE.imp (pe_callTy (call_listO (pn := pn) hc) hg hm PyProof.Rows.boot_list ha (by decide) (by decide) he hpl) ?_
  rintro σ H Q ⟨F, α, ρ, μ, h, sl, w⟩
  refine asR h sl w fun rs μ1 vs F1 α1 H1 g1 h1 rv p => ?_
  obtain ⟨ds, e1, p⟩ := opt.of p
  obtain ⟨xs, e2, p⟩ := opt.of p
  exact ⟨F, F1, α, α1, μ1, rs, ds, xs, g1, h1, rv, e1, e2, p⟩

theorem R.kit {pins : List (Addr × Obj)} {σ : L2.St} {H : Hp} {s : Shared} {v : V} {u : Value} {d : D} {t : String} (I : Inv X pins σ H s) (rx : RelV v u) (r : R X.K H v d) (e : tyD d = some t) :
    ∃ P : Heap → Prop, PySem.W.KitX X.K u (.type t) P ∧ P s.heap ∧ u ≠ .builtin "__main__.__loader__#opaque" := by
  have by_ : TyX X.K H v (.type t) → ∃ P : Heap → Prop, PySem.W.KitX X.K u (.type t) P ∧ P s.heap ∧ u ≠ .builtin "__main__.__loader__#opaque" := fun h => kit_of I rx h
  cases r with
  | non => cases e; exact by_ (.base .non)
  | bl b => cases e; exact by_ (.base (.bl b))
  | int i => cases e; exact by_ (.base (.int i))
  | str x => cases e; exact by_ (.base (.str x))
  | ty n => cases e
  | gl x => cases e
  | lst h r =>
    cases e
    rcases h with h | ⟨o, h⟩
    · exact by_ (.base (.lst h))
    · exact by_ (.base (.frz h))
  | tup h r =>
    cases e
    rcases h with (h | ⟨o, h⟩) | ⟨o, its, n, h1, h2, _⟩
    · exact by_ (.base (.tup h))
    · exact by_ (.fTuple h)
    · exact by_ (.kTuple h1 h2)
  | dK h r =>
    cases e
    rcases h with h | ⟨o, h⟩
    · exact by_ (.base (.dK h))
    · exact by_ (.fDict h)
  | dT h r =>
    cases e
    rcases h with h | ⟨o, h⟩
    · exact by_ (.base (.dT h))
    · rename_i a kvs ds
      cases (show u = Value.ref a from rx)
      obtain ⟨_, _, _, xs, _, o, es, ep, h1, h2, _⟩ := (show ObjOk X.prog X.w H s.heap a (.frz o (.dT kvs)) from I.hok a _ h)
      exact ⟨_, PySem.W.kitx_dict, ⟨o, h1, h2.1⟩, fun z => nomatch z⟩
  | obj _ _ _ => cases e
def Ty.nm : Ty → String
  | .str => "str" | .int => "int" | .bool => "bool" | .list => "list" | .tuple => "tuple" | .dict => "dict" | _ => ""
def Ty.plain : Ty → Bool
  | .lstup | .own _ => false
  | _ => true
theorem isi_kit {t : Ty} {d : D} {z : Bool} (ht : t.plain = true) (e : isiD t d = some z) : ∃ a, tyD d = some a ∧ kitB a t.nm = some z := by
  cases t <;> first | (cases ht; done) | skip
  all_goals
    obtain ⟨a, e1, e2⟩ := Option.map_eq_some_iff.mp e
    refine ⟨a, e1, ?_⟩
    cases d <;> first | (cases e1; done) | (cases e1; cases e2; first | (show kitB _ _ = some true; decide +kernel) | (show kitB _ _ = some false; decide +kernel))
theorem isi_kit2 {d : D} {z : Bool} (e : isiD .lstup d = some z) : ∃ a, tyD d = some a ∧ PySem.W.kitAny X.K (.type a) [.type "list", .type "tuple"] = some z := by
  obtain ⟨a, e1, e2⟩ := Option.map_eq_some_iff.mp e
  refine ⟨a, e1, ?_⟩
  have k : ∀ {b : Bool} {y : String}, kitB a y = some b → PySem.W.kitOne X.K (.type a) (.type y) = some b := fun h => kit_ty h
  cases d <;> first | (cases e1; done) | skip
  all_goals
    cases e1; cases e2
    unfold PySem.W.kitAny
    first
      | (rw [k (b := true) (by decide +kernel)]; done)
      | (rw [k (b := false) (by decide +kernel)]
         unfold PySem.W.kitAny
         first
           | (rw [k (b := true) (by decide +kernel)]; done)
           | (rw [k (b := false) (by decide +kernel)]; rfl))
theorem boot_tyn {t : Ty} (ht : t.plain = true) : bootBuiltins (Str.ofString t.nm) = some (.type t.nm) := by
  cases t <;> first | (cases ht; done) | decide +kernel
theorem d_isi {t : Ty} {p p2 pos : Pos} {e : Expr} {a : E} (ht : t.plain = true) (hg : Gl X "isinstance") (hm : X.mg "isinstance" = none) (hg2 : Gl X (Str.ofString t.nm)) (hm2 : X.mg (Str.ofString t.nm) = none) (h : PE X e (tE X.K pn W a))
    (he : starEach [e, .Name (Str.ofString t.nm) p2] X.env = (false, eval e X.env) :: starEach [.Name (Str.ofString t.nm) p2] X.env) : PE X (.Call (.Name "isinstance" p) [e, .Name (Str.ofString t.nm) p2] [] pos) (tE X.K pn W (.isi a t)) := by
  have hty : PE X (.Name (Str.ofString t.nm) p2) (tC (.ty t.nm)) := pe_bltn hg2 hm2 (boot_tyn ht) rfl (by cases t <;> first | (cases ht; done) | decide) (by cases t <;> first | (cases ht; done) | decide)
  have key : CallR X (.builtin "isinstance") (fun xs H Q => ∃ v d z, xs = [v, .ty t.nm] ∧ R X.K H v d ∧ isiD t d = some z ∧ Q (.bl z) H) := by
    intro pins s σ H xs us Q I r h
    obtain ⟨v, d, z, rfl, hr, hz, q⟩ := h
    obtain ⟨u1, u2, rfl, r1, r2⟩ := vals2 r
    cases (show u2 = Value.type t.nm from r2)
    obtain ⟨b, e1, e2⟩ := isi_kit ht hz
    obtain ⟨P, Z, p, hx⟩ := hr.kit I r1 e1
    exact PySem.W.kia_one Z I.kIn p (kit_ty e2) hx fun tk => ⟨.bl z, H, I.tok tk, rfl, q⟩
  refine PE.imp (pe_callB key hg hm PyProof.Rows.boot_isinstance (pa_cons h (pa_cons hty pa_nil) he) (by decide) (by decide) he) ?_
  rintro σ H Q ⟨F, α, ρ, μ, h, sl, w⟩
  refine one1 h sl w fun r1 μ1 v1 F1 α1 H1 g1 h1 rv1 p => ?_
  obtain ⟨d, e1, p⟩ := opt.of p
  obtain ⟨z, e2, p⟩ := opt.of p
  exact ⟨v1, d, z, rfl, h1.see rv1 e1, e2, p _ F1 α1 H1 g1 h1 (R.bl z)⟩
theorem d_isi2 {p p1 p2 p3 pos : Pos} {k : Nat} {e : Expr} {a : E} (hg : Gl X "isinstance") (hm : X.mg "isinstance" = none) (hg1 : Gl X "list") (hm1 : X.mg "list" = none) (hg2 : Gl X "tuple") (hm2 : X.mg "tuple" = none) (h : PE X e (tE X.K pn W a))
    (he : starEach [e, .Tuple [.Name "list" p1, .Name "tuple" p2] k p3] X.env = (false, eval e X.env) :: starEach [.Tuple [.Name "list" p1, .Name "tuple" p2] k p3] X.env) : PE X (.Call (.Name "isinstance" p) [e, .Tuple [.Name "list" p1, .Name "tuple" p2] k p3] [] pos) (tE X.K pn W (.isi a .lstup)) := by
  have hl : PE X (.Name "list" p1) (tC (.ty "list")) := pe_bltn hg1 hm1 PyProof.Rows.boot_list rfl
  have ht : PE X (.Name "tuple" p2) (tC (.ty "tuple")) := pe_bltn hg2 hm2 PyProof.Rows.boot_tuple rfl
  have key : CallR X (.builtin "isinstance") (fun xs H Q => ∃ v d z tp, xs = [v, .ref tp] ∧ H tp = some (.tup [.ty "list", .ty "tuple"]) ∧ R X.K H v d ∧ isiD .lstup d = some z ∧ Q (.bl z) H) := by
    intro pins s σ H xs us Q I r h
    obtain ⟨v, d, z, tp, rfl, hT, hr, hz, q⟩ := h
    obtain ⟨u1, u2, rfl, r1, r2⟩ := vals2 r
    cases (show u2 = Value.ref tp from r2)
    obtain ⟨b, e1, e2⟩ := isi_kit2 (X := X) hz
    obtain ⟨P, Z, p, hx⟩ := hr.kit I r1 e1
    obtain ⟨_, its, rv, o, h1, h2, n, h3⟩ := (show ObjOk X.prog X.w H s.heap tp (.tup _) from I.hok tp _ hT)
    have e3 := ClsV.all (.cons (.ty "list") (.cons (.ty "tuple") .nil)) rv
    subst e3
    obtain ⟨oc, od, dt, sl⟩ := o
    simp only at h2 h3
    subst h2 h3
    exact PySem.W.kia_tup Z I.kIn p h1 e2 hx fun tk => ⟨.bl z, H, I.tok tk, rfl, q⟩
  refine PE.imp (pe_callB key hg hm PyProof.Rows.boot_isinstance (pa_cons h (pa_cons (pe_tup (pa_cons hl (pa_cons ht pa_nil))) pa_nil) he) (by decide) (by decide) he) ?_
  rintro σ H Q ⟨F, α, ρ, μ, h, sl, w⟩
  refine one1 h sl w fun r1 μ1 v1 F1 α1 H1 g1 h1 rv1 p => ?_
  obtain ⟨d, e1, p⟩ := opt.of p
  obtain ⟨z, e2, p⟩ := opt.of p
  refine ⟨by rw [line_eq]; show 2 ≤ _; omega, fun tp np => ?_⟩
  have h2 := h1.add (u := .tup [.ty "list", .ty "tuple"]) np
  exact ⟨v1, d, z, tp, rfl, upd_same, h2.see rv1 e1, e2, p _ F1 α1 _ g1 h2 (R.bl z)⟩

theorem d_fld {e : Expr} {c f : Str} {pos : Pos} {a : E} (h : PE X e (tE X.K pn W a)) (cl : Cls X.K (He.ga X.K c)) (na : NoAttr X.K (He.ga X.K c) f) (hb : attributeBase e f X.env (eval e X.env) = eval e X.env) : PE X (.Attribute e f pos) (tE X.K pn W (.fld a c f)) := by
  refine PE.imp (pe_fld h hb) ?_
  rintro σ H Q ⟨F, α, ρ, μ, h, sl, w⟩
  refine one1 h sl w fun r1 μ1 v1 F1 α1 H1 g1 h1 rv1 p => ?_
  have go : ∀ {b dx : Addr} {vs : List (Str × V)} {fs : List (Str × D)} {d : D}, H1 b = some (.ins (He.ga X.K c) dx vs) → RF X.K F1 vs fs → fs.lookup f = some d → kE X.K pn F α Q (.dat d) μ1 →
      ∃ a C dx fs v, V.ref b = .ref a ∧ H1 a = some (.ins C dx fs) ∧ Cls X.K C ∧ NoAttr X.K C f ∧ fs.lookup f = some v ∧ Q v H1 := fun eb rf el p => by
    obtain ⟨v, e3, r3⟩ := rf.lookup el
    exact ⟨_, _, _, _, v, rfl, eb, cl, na, e3, p v F1 α1 H1 g1 h1 r3⟩
  cases r1 with
  | exc c' fs => exact p.elim
  | since _ _ _ => exact p.elim
  | dat d0 =>
    cases d0 with
    | obj c' fs =>
      obtain ⟨rfl, p⟩ := p
      obtain ⟨d, e1, p⟩ := opt.of p
      cases rv1 with
      | obj e2 e3 rf => exact go (h1.le.ex _ _ rfl e2) rf e1 p
    | _ => exact p.elim
  | loc l =>
    obtain ⟨b, eb, rfl⟩ := rv1
    obtain ⟨o, eo, p1⟩ := opt.of p
    clear p
    have z := h1.ob l b o eb eo
    cases o with
    | lst _ => exact p1.elim
    | dic _ => exact p1.elim
    | dit _ => exact p1.elim
    | tab _ => exact p1.elim
    | ins c' fs =>
      obtain ⟨rfl, p2⟩ := p1
      obtain ⟨d, e1, p⟩ := opt.of p2
      obtain ⟨_, dx, vs, e2, _, _, fv⟩ := z
      exact go e2 fv e1 p
    | frz d0 =>
      cases d0 with
      | obj c' fs =>
        obtain ⟨rfl, p2⟩ := p1
        obtain ⟨d, e1, p⟩ := opt.of p2
        cases z with
        | obj e2 e3 rf => exact go (h1.le.ex _ _ rfl e2) rf e1 p
      | _ => exact p1.elim
end

/-- what a def (or a class) called keeps -/
def lift (K : PySem.W.Frag) (S : Spc) : Sp := fun vs H Q E => ∃ F α μ rs, Hold K F H α μ ∧ RvRs K [] F α rs vs ∧
  S.run rs μ (fun rv μ' => ∀ v F' α' H', Go F F' α α' → Hold K F' H' α' μ' → RvR K [] F' α' rv v → Q v H') (fun ex μ' => ∀ cls d F' α' H', Go F F' α α' → Hold K F' H' α' μ' → ExR K F' ex cls d → E cls d H')
def CallOk (P : Program) (w : World) (K : PySem.W.Frag) (mg : Str → Option Value) (base : Heap) (k : Nat) (a : Addr) (sp : Sp) : Prop :=
  ∀ (X : Cx) (W : WX), X.prog = P → X.w = w → X.K = K → X.mg = mg → X.base = base → Room k X.A → Takes X W → ∀ (pins : List (Addr × Obj)) (s : Shared) (σ : L2.St) (H : Hp) (us : List Value) (vs : List V) (Q : VK), Inv X pins σ H s → Vals vs us →
    sp vs H Q (fun cls d H' => W cls d σ H') → wpAny (model X.prog X.w) X.A (call (.ref a) us) (EP X pins σ Q) X.xe s
theorem FnR.callOk {P : Program} {w : World} {K : PySem.W.Frag} {mg : Str → Option Value} {base : Heap} {k : Nat} {a : Addr} {sp : Sp} (F : FnR P w K mg base (CX P w) k a sp) : CallOk P w K mg base k a sp := by
  intro X W e1 e2 e3 e4 e5 hr tk pins s σ H us vs Q I r h
  subst e1 e2 e3 e4 e5
  refine wpAny_call (codeAny_mono (F X.A X.stack s H us vs Q _ hr I.env0 r h) fun r s' hq => ?_)
  cases r with
  | error e => exact tk e s' (XE.of_call I (fun _ _ _ h => h) hq)
  | ok fl =>
    cases fl with
    | ret u => exact I.after hq
    | next => exact False.elim hq
    | brk => exact False.elim hq
    | cont => exact False.elim hq
theorem CallOk.mono {P : Program} {w : World} {K : PySem.W.Frag} {mg : Str → Option Value} {base : Heap} {j k : Nat} {a : Addr} {sp : Sp} (C : CallOk P w K mg base j a sp) (h : j ≤ k) : CallOk P w K mg base k a sp :=
  fun X W e1 e2 e3 e4 e5 hr => C X W e1 e2 e3 e4 e5 (hr.mono h)
section
variable {X : Cx} {W : WX} {pn : List (Addr × Obj)}
theorem lift_in {S : Spc} {σ : L2.St} {H1 : Hp} {Q : VK} {F F1 : Hp} {α α1 : Al} {μ1 : Mu} {rs : List RV} {vs : List V} (g1 : Go F F1 α α1) (h1 : Hold X.K F1 H1 α1 μ1) (rv : RvRs X.K [] F1 α1 rs vs) (p : S.run rs μ1 (kE X.K pn F α Q) (kX X.K F α σ W)) :
    lift X.K S vs H1 Q (fun cls d H' => W cls d σ H') :=
  ⟨F1, α1, μ1, rs, h1, rv, S.mono _ _ _ _ _ _ p (fun r m q v F' α' H' g h r' => q v F' α' H' (g1.trans g) h r'.wide) fun e m q c d F' α' H' g h r' => q c d F' α' H' (g1.trans g) h r'⟩
theorem d_call {k : Nat} {x : Str} {fa : Addr} {S : Spc} {p pos : Pos} {e : Expr} {es : List Expr} {as : As} (C : CallOk X.prog X.w X.K X.mg X.base k fa (lift X.K S)) (hr : Room k X.A) (tk : Takes X W) (hm : X.mg x = some (.ref fa)) (hk : PySem.W.keepIn X.K (.ref fa) = true)
    (hg : Gl X x) (hdb : (x == ("__debug__" : Str)) = false) (ha : PA X (e :: es) (tAs X.K pn W as)) (he : starEach (e :: es) X.env = (false, eval e X.env) :: starEach es X.env) : PE X (.Call (.Name x p) (e :: es) [] pos) (tE X.K pn W (.call x S as)) := by
  refine ⟨fun pins s σ H Q I q => ?_⟩
  obtain ⟨F, α, ρ, μ, h, sl, w⟩ := q
  refine wpAny_Call_Name_kw (ld_glob I hg hm ?_ hdb)
  have run : wpAny (model X.prog X.w) X.A (spliced (backTo pos (starEach (e :: es) X.env))) (fun vs s₁ => X.K.In s₁.heap ∧ wpAny (model X.prog X.w) X.A (call (.ref fa) ([] ++ vs)) (EP X pins σ Q) X.xe s₁) X.xe s := by
    refine thn (ha.run pos pins s σ H _ I (asR h sl w fun rs μ1 vs F1 α1 H1 g1 h1 rv p => lift_in g1 h1 rv p)) fun us s1 ⟨vs, H1, I1, r1, q1⟩ => ⟨I1.kIn, ?_⟩
    exact C X W rfl rfl rfl rfl rfl hr tk pins s1 σ H1 us vs Q I1 r1 q1
  cases hst : (backTo pos (starEach es X.env)).any (·.1) with
  | false => exact PySem.W.callWith_K (h₀ := X.base) I.ok.mod.kin hk run he hst
  | true => exact PySem.W.callWith_S2 (h₀ := X.base) I.ok.mod.kin hk run he hst
theorem d_call0 {k : Nat} {x : Str} {fa : Addr} {S : Spc} {p pos : Pos} (C : CallOk X.prog X.w X.K X.mg X.base k fa (lift X.K S)) (hr : Room k X.A) (tk : Takes X W) (hm : X.mg x = some (.ref fa)) (hk : PySem.W.keepIn X.K (.ref fa) = true)
    (hg : Gl X x) (hdb : (x == ("__debug__" : Str)) = false) : PE X (.Call (.Name x p) [] [] pos) (tE X.K pn W (.call x S .nil)) := by
  refine ⟨fun pins s σ H Q I q => ?_⟩
  obtain ⟨F, α, ρ, μ, h, sl, w⟩ := q
  refine wpAny_Call_Name_kw (ld_glob I hg hm ?_ hdb)
  exact PySem.W.callWith_K0 I.kIn hk (C X W rfl rfl rfl rfl rfl hr tk pins s σ H [] [] Q I .nil (lift_in (pn := pn) .refl h (rs := []) trivial w))
theorem d_callS {k : Nat} {x : Str} {fa : Addr} {S : Spc} {p sp pos : Pos} {e : Expr} {a : E} (C : CallOk X.prog X.w X.K X.mg X.base k fa (lift X.K S)) (hr : Room k X.A) (tk : Takes X W) (hm : X.mg x = some (.ref fa)) (hk : PySem.W.keepIn X.K (.ref fa) = true)
    (hg : Gl X x) (hdb : (x == ("__debug__" : Str)) = false) (he : PE X e (tE X.K pn W a)) : PE X (.Call (.Name x p) [.Starred e sp] [] pos) (tE X.K pn W (.call x S (.star a .nil))) := by
  refine ⟨fun pins s σ H Q I q => ?_⟩
  obtain ⟨F, α, ρ, μ, h, sl, w⟩ := q
  refine wpAny_Call_Name_kw (ld_glob I hg hm ?_ hdb)
  refine PySem.W.callWith_S (h₀ := X.base) I.ok.mod.kin hk (thn (he.run pins s σ H (fun y H1 => ∃ a xs, y = V.ref a ∧ (SqT X.K H1 a xs ∨ SqL X.K H1 a xs) ∧ lift X.K S xs H1 Q (fun cls d H' => W cls d σ H')) I ?_) fun v s1 ⟨y, H1, I1, ry, b, xs, ey, hxs, q⟩ => ?_) rfl
  · refine one1 h sl w fun r1 μ1 v1 F1 α1 H1 g1 h1 rv1 p => ?_
    obtain ⟨d, e1, p⟩ := opt.of p
    split at p
    · obtain ⟨b, vs, rfl, s1, l1⟩ := h1.items rv1 e1
      refine ⟨b, vs, rfl, .inr (.inl s1), lift_in (pn := pn) g1 h1 (RvRs.dats l1) ?_⟩
      simpa [wpA] using p
    · obtain ⟨b, vs, rfl, s1, _, l1⟩ := h1.itemsT rv1 e1
      refine ⟨b, vs, rfl, .inl s1, lift_in (pn := pn) g1 h1 (RvRs.dats l1) ?_⟩
      simpa [wpA] using p
    · exact p.elim
  · subst ey
    obtain rfl : v = Value.ref b := ry
    exact StX.star_any I1 hxs fun us s2 I2 rv => ⟨I2.kIn, C X W rfl rfl rfl rfl rfl hr tk pins s2 σ H1 us xs Q I2 rv q⟩
theorem meth_eval {o : Expr} {m : Str} {apos pos : Pos} {es : List Expr} {env : Env} (hb : attributeBase o m env (eval o env) = eval o env) (hf : methodCallForm (es.length + ([] : List Keyword).length) (backTo pos (starEach es env)) (backToKw pos (keywordEach [] env)) = true) (hl : (apos.endLine == pos.line) = true) :
    eval (.Call (.Attribute o m apos) es [] pos) env = (do
      let ov ← eval o env
      standAt apos.atName
      let (f, first) ← holding [ov] (getMethod ov m (do return (← importBound o env).getD true))
      callWith pos f first (backTo pos (starEach es env)) (backToKw pos (keywordEach [] env))) := by
  rw [eval]
  rw [hb]
  congr 1
  funext ov
  congr 1
  funext _
  unfold methodCall calleeOf methodCallPos
  rw [hf, hl]
  simp
theorem meth_in {c m : Str} {S : Spc} {as : As} {σ : L2.St} {H1 : Hp} {Q : VK} {F F1 : Hp} {α α1 : Al} {ρ : Rho} {μ1 : Mu} {r1 : RV} {v1 : V} (g1 : Go F F1 α α1) (h1 : Hold X.K F1 H1 α1 μ1) (sl : Slots X.K pn F α ρ σ) (rv1 : RvR X.K pn F1 α1 r1 v1)
    (p : isOf c m μ1 r1 ∧ wpA as ρ μ1 (fun rs μ1 => S.run (r1 :: rs) μ1 (kE X.K pn F α Q) (kX X.K F α σ W)) (kX X.K F α σ W)) :
    ∃ b dx fs, v1 = .ref b ∧ H1 b = some (.ins (He.ga X.K c) dx fs) ∧ fs.lookup m = none ∧ tAs X.K pn W as σ H1 fun vs H2 => lift X.K S (v1 :: vs) H2 Q (fun cls d H' => W cls d σ H') := by
  obtain ⟨p1, p2⟩ := p
  have rest : r1.ok = true → tAs X.K pn W as σ H1 fun vs H2 => lift X.K S (v1 :: vs) H2 Q (fun cls d H' => W cls d σ H') := fun ok =>
    ⟨F1, α1, ρ, μ1, h1, sl.mono g1, wpA.imp as p2 (fun rs m p vs F2 α2 H2 g2 h2 rv => lift_in (g1.trans g2) h2 (rs := r1 :: rs) ⟨(rv1.bare ok).mono g2, rv⟩ p) fun _ _ x => x.go g1⟩
  cases r1 with
  | exc c' fs => exact p1.elim
  | since _ _ _ => exact p1.elim
  | dat d0 =>
    cases d0 with
    | obj c' fs =>
      obtain ⟨rfl, el⟩ := p1
      have r := rest rfl
      cases rv1 with
      | obj e2 e3 rf => exact ⟨_, _, _, rfl, h1.le.ex _ _ rfl e2, rf.lookup_none el, r⟩
    | _ => exact p1.elim
  | loc l =>
    obtain ⟨oo, eo, p1⟩ := opt.of p1
    have r := rest rfl
    obtain ⟨b, eb, rfl⟩ := rv1
    cases oo with
    | lst _ => exact p1.elim
    | dic _ => exact p1.elim
    | dit _ => exact p1.elim
    | tab _ => exact p1.elim
    | frz d =>
      cases d with
      | obj c' fs =>
        obtain ⟨rfl, el⟩ := p1
        have rr : R X.K F1 (.ref b) (.obj c' fs) := h1.ob l b _ eb eo
        cases rr with
        | obj e2 e3 rf => exact ⟨_, _, _, rfl, h1.le.ex _ _ rfl e2, rf.lookup_none el, r⟩
      | _ => exact p1.elim
    | ins c' fs =>
    obtain ⟨rfl, el⟩ := p1
    obtain ⟨_, dx, vs, e2, _, _, fv⟩ := h1.ob l b _ eb eo
    exact ⟨b, dx, vs, rfl, e2, fv.lookup_none el, r⟩
theorem d_meth {k : Nat} {c m : Str} {fa : Addr} {S : Spc} {apos pos : Pos} {o e : Expr} {es : List Expr} {a : E} {as : As} (ho : PE X o (tE X.K pn W a)) (cl : Cls X.K (He.ga X.K c)) (hm : Meth X.K (He.ga X.K c) m fa) (C : CallOk X.prog X.w X.K X.mg X.base k fa (lift X.K S)) (hr : Room k X.A) (tk : Takes X W)
    (ha : PA X (e :: es) (tAs X.K pn W as)) (he : starEach (e :: es) X.env = (false, eval e X.env) :: starEach es X.env) (hpl : (backTo pos (starEach es X.env)).any (·.1) = false)
    (hb : attributeBase o m X.env (eval o X.env) = eval o X.env) (hf : methodCallForm ((e :: es).length + ([] : List Keyword).length) (backTo pos (starEach (e :: es) X.env)) (backToKw pos (keywordEach [] X.env)) = true) (hl : (apos.endLine == pos.line) = true) :
    PE X (.Call (.Attribute o m apos) (e :: es) [] pos) (tE X.K pn W (.meth a c m S as)) := by
  refine ⟨fun pins s σ H Q I q => ?_⟩
  obtain ⟨F, α, ρ, μ, h, sl, w⟩ := q
  refine PySem.W.methodCall_KW (thn (ho.run pins s σ H (fun x H1 => ∃ b dx fs, x = .ref b ∧ H1 b = some (.ins (He.ga X.K c) dx fs) ∧ fs.lookup m = none ∧ tAs X.K pn W as σ H1 fun vs H2 => lift X.K S (x :: vs) H2 Q (fun cls d H' => W cls d σ H')) I ?_) fun u s1 ⟨x, H1, I1, rx, b, dx, fs, ex, eb, l, q⟩ => ?_) (meth_eval hb hf hl)
  · refine one1 h sl w fun r1 μ1 v1 F1 α1 H1 g1 h1 rv1 p => ?_
    exact meth_in g1 h1 sl rv1 p
  · subst ex
    obtain rfl : u = Value.ref b := rx
    refine getmeth_ok I1 eb cl hm l ?_
    refine PySem.W.callWith_K (first := [.ref b]) (h₀ := X.base) I.ok.mod.kin hm.kp (thn (ha.run pos pins s1 σ H1 _ I1 q) fun us s2 ⟨vs, H2, I2, r, q2⟩ => ⟨I2.kIn, ?_⟩) he hpl
    exact C X W rfl rfl rfl rfl rfl hr tk pins s2 σ H2 (.ref b :: us) (.ref b :: vs) Q I2 (.cons rfl r) q2
theorem d_meth0 {k : Nat} {c m : Str} {fa : Addr} {S : Spc} {apos pos : Pos} {o : Expr} {a : E} (ho : PE X o (tE X.K pn W a)) (cl : Cls X.K (He.ga X.K c)) (hm : Meth X.K (He.ga X.K c) m fa) (C : CallOk X.prog X.w X.K X.mg X.base k fa (lift X.K S)) (hr : Room k X.A) (tk : Takes X W)
    (hb : attributeBase o m X.env (eval o X.env) = eval o X.env) (hl : (apos.endLine == pos.line) = true) : PE X (.Call (.Attribute o m apos) [] [] pos) (tE X.K pn W (.meth a c m S .nil)) := by
  refine ⟨fun pins s σ H Q I q => ?_⟩
  obtain ⟨F, α, ρ, μ, h, sl, w⟩ := q
  refine PySem.W.methodCall_KW (thn (ho.run pins s σ H (fun x H1 => ∃ b dx fs, x = .ref b ∧ H1 b = some (.ins (He.ga X.K c) dx fs) ∧ fs.lookup m = none ∧ tAs X.K pn W .nil σ H1 fun vs H2 => lift X.K S (x :: vs) H2 Q (fun cls d H' => W cls d σ H')) I ?_) fun u s1 ⟨x, H1, I1, rx, b, dx, fs, ex, eb, l, q⟩ => ?_) (meth_eval hb rfl hl)
  · refine one1 h sl w fun r1 μ1 v1 F1 α1 H1 g1 h1 rv1 p => ?_
    exact meth_in g1 h1 sl rv1 p
  · subst ex
    obtain rfl : u = Value.ref b := rx
    refine getmeth_ok I1 eb cl hm l ?_
    obtain ⟨F1, α1, ρ1, μ1, h1, sl1, w1⟩ := q
    exact PySem.W.callWith_K0 (first := [.ref b]) I1.kIn hm.kp (C X W rfl rfl rfl rfl rfl hr tk pins s1 σ H1 [.ref b] [.ref b] Q I1 (.cons rfl .nil) (w1 [] F1 α1 H1 .refl h1 trivial))
end
end DL

namespace DL
open PySem PySem.Spec PyProof.Rows L2

section
variable {X : Cx} {W : WX} {pn : List (Addr × Obj)}
theorem tyL {K : PySem.W.Frag} {F H : Hp} {α : Al} {μ : Mu} {l : Nat} {v : V} {xs : List D} {pn : List (Addr × Obj)} (h : Hold K F H α μ) (r : RvR K pn F α (.loc l) v) (e : μ[l]? = some (.lst xs)) : tyV K "list" v H := by
  obtain ⟨a, ea, rfl⟩ := r
  obtain ⟨_, vs, q, _⟩ := h.ob l a _ ea e
  exact .inl ⟨rfl, _, .inl (.inl q)⟩
theorem notStar {e : Expr} (h : ∀ x p, e ≠ .Starred x p) (es : List Expr) (env : Env) : starEach (e :: es) env = (false, eval e env) :: starEach es env := by
  cases e <;> first | rfl | exact absurd rfl (h _ _)
theorem d_app {o e : Expr} {apos cpos : Pos} {a b : E} (ho : PE X o (tE X.K pn W a)) (he : PE X e (tE X.K pn W b)) (hbase : attributeBase o "append" X.env (eval o X.env) = eval o X.env) (hline : (apos.endLine == cpos.line) = true) (hst : ∀ x p, e ≠ .Starred x p) :
    PE X (.Call (.Attribute o "append" apos) [e] [] cpos) (tE X.K pn W (.app a b)) := by
  have hs := notStar hst [] X.env
  refine PE.imp (pe_bm PySem.F.plainAttrs_list PySem.F.slot_list_append PySem.F.type_list_append mt_append ho (pa_cons he pa_nil hs) hbase (by rw [hs]; rfl) hline hs rfl) ?_
  rintro σ H Q ⟨F, α, ρ, μ, h, sl, w⟩
  refine one1 h sl w fun r1 μ1 v1 F1 α1 H1 g1 h1 rv1 p => ?_
  cases r1 with
  | dat _ => exact p.elim
  | exc _ _ => exact p.elim
  | since _ _ _ => exact p.elim
  | loc l =>
    obtain ⟨⟨xs0, e0⟩, p⟩ := p
    refine ⟨tyL h1 rv1 e0, ?_⟩
    refine ⟨F1, α1, ρ, μ1, h1, sl.mono g1, wpE.imp b p (fun r2 μ2 p v2 F2 α2 H2 g2 h2 rv2 => ?_) fun _ _ x => x.go g1⟩
    obtain ⟨⟨d, μ3⟩, e1, p⟩ := opt.of p
    obtain ⟨F3, g3, h3, r3⟩ := h2.freeze rv2 e1
    obtain ⟨o, eo, p⟩ := opt.of p
    obtain ⟨aa, ea, ev⟩ := rv1.mono (g2.trans g3)
    cases o with
    | lst xs =>
      obtain ⟨hz, p⟩ := p
      obtain ⟨nF, vs, q, rl⟩ := h3.ob l aa _ ea eo
      refine ⟨aa, vs, v2, ev, rfl, q, by rw [rl.length, line_eq]; exact hz, ?_⟩
      refine p _ F3 α2 _ (g1.trans (g2.trans g3)) (h3.write ea nF q (fun x z => nomatch z) ⟨nF, _, upd_same, rl.append (.cons r3 .nil)⟩) R.non
    | _ => exact p.elim
theorem d_popat {o e : Expr} {apos cpos : Pos} {a b : E} (ho : PE X o (tE X.K pn W a)) (he : PE X e (tE X.K pn W b)) (hbase : attributeBase o "pop" X.env (eval o X.env) = eval o X.env) (hline : (apos.endLine == cpos.line) = true) (hst : ∀ x p, e ≠ .Starred x p) :
    PE X (.Call (.Attribute o "pop" apos) [e] [] cpos) (tE X.K pn W (.popat a b)) := by
  have hs := notStar hst [] X.env
  refine PE.imp (pe_bm PySem.F.plainAttrs_list PySem.F.slot_list_pop PySem.F.type_list_pop mt_popAt ho (pa_cons he pa_nil hs) hbase (by rw [hs]; rfl) hline hs rfl) ?_
  rintro σ H Q ⟨F, α, ρ, μ, h, sl, w⟩
  refine one1 h sl w fun r1 μ1 v1 F1 α1 H1 g1 h1 rv1 p => ?_
  cases r1 with
  | dat _ => exact p.elim
  | exc _ _ => exact p.elim
  | since _ _ _ => exact p.elim
  | loc l =>
    obtain ⟨⟨xs0, e0⟩, p⟩ := p
    refine ⟨tyL h1 rv1 e0, ?_⟩
    refine ⟨F1, α1, ρ, μ1, h1, sl.mono g1, wpE.imp b p (fun r2 μ2 p v2 F2 α2 H2 g2 h2 rv2 => ?_) fun _ _ x => x.go g1⟩
    split at p
    · rename_i i
      cases rv2
      obtain ⟨o, eo, p⟩ := opt.of p
      obtain ⟨aa, ea, ev⟩ := rv1.mono g2
      cases o with
      | lst xs =>
        obtain ⟨hz, h0, p⟩ := p
        obtain ⟨z, ez, p⟩ := opt.of p
        obtain ⟨nF, vs, q, rl⟩ := h2.ob l aa _ ea eo
        obtain ⟨y, ey, ry⟩ := rl.get ez
        have hz := of_decide_eq_true hz
        have hlt : i.toNat < vs.length := (List.getElem?_eq_some_iff.mp ey).1
        refine ⟨aa, vs, i, i.toNat, y, ev, rfl, q, by omega, by omega, ?_, ey, ?_⟩
        · have : ixN vs.length i = some i.toNat := by unfold ixN; rw [if_pos h0, if_pos (by omega)]
          exact (ixN_seq this).1
        · exact p _ F2 α2 _ (g1.trans g2) (h2.write ea nF q (fun x z => nomatch z) ⟨nF, _, upd_same, rl.eraseIdx _⟩) ry
      | _ => exact p.elim
    · exact p.elim

structure ItOk (K : PySem.W.Frag) (J : L2.It) (F : Hp) (ds : List D) : Prop where
  len : ds.length ≤ 16777216
  go : ∀ i H, Le F H → i < ds.length → J.go i H
  stop : ∀ i H, Le F H → ds.length ≤ i → J.stop i H
  yld : ∀ i H x H', Le F H → J.yld i H x H' → i < ds.length → ∃ d, ds[i]? = some d ∧ ((H' = H ∧ R K F x d) ∨ ∃ T ys es, H T = none ∧ H' = upd H T (.tup ys) ∧ x = .ref T ∧ d = .tup es ∧ RL K F ys es)
def tI (K : PySem.W.Frag) (pn : List (Addr × Obj)) (W : WX) (a : It) : TI := fun σ H R => ∃ F α ρ μ, Hold K F H α μ ∧ Slots K pn F α ρ σ ∧ wpI a ρ μ (fun ds μ' => ∀ J F' α' H', Go F F' α α' → Hold K F' H' α' μ' → ItOk K J F' ds → R J H') (kX K F α σ W)
theorem itok_list {K : PySem.W.Frag} {F : Hp} {a : Addr} {vs : List V} {ds : List D} (h : Rd F a (.lst vs)) (r : RL K F vs ds) (hz : vs.length ≤ sizeLine) : ItOk K (Itl K a) F ds := by
  refine ⟨by rw [← r.length, ← line_eq]; exact hz, fun i H l hi => ?_, fun i H l hi => ⟨vs, .inl (l.rd _ _ rfl h), by rw [r.length]; exact hi⟩, fun i H x H' l y hi => ?_⟩
  · rw [← r.length] at hi
    exact ⟨vs, vs[i], .inl (l.rd _ _ rfl h), by simp [hi]⟩
  · obtain ⟨rfl, y⟩ := y
    obtain ⟨d, e, q⟩ := r.get' (y vs (.inl (l.rd _ _ rfl h)))
    exact ⟨d, e, .inl ⟨rfl, q⟩⟩
theorem itok_tup {K : PySem.W.Frag} {F : Hp} {a : Addr} {vs : List V} {ds : List D} (h : SqT K F a vs) (r : RL K F vs ds) (hz : vs.length ≤ sizeLine) : ItOk K (Itt K a) F ds := by
  refine ⟨by rw [← r.length, ← line_eq]; exact hz, fun i H l hi => ?_, fun i H l hi => ⟨vs, l.sqT h, by rw [r.length]; exact hi⟩, fun i H x H' l y hi => ?_⟩
  · rw [← r.length] at hi
    exact ⟨vs, vs[i], l.sqT h, by simp [hi]⟩
  · obtain ⟨rfl, y⟩ := y
    obtain ⟨d, e, q⟩ := r.get' (y vs (l.sqT h))
    exact ⟨d, e, .inl ⟨rfl, q⟩⟩
theorem itok_str {K : PySem.W.Frag} {F : Hp} {z : Str} (hz : z.length ≤ 16777216) : ItOk K (Its z) F (z.cps.toList.map chD) := by
  have hl : (z.cps.toList.map chD).length = z.cps.size := by simp
  refine ⟨by rw [hl]; exact hz, fun i H l hi => by rw [hl] at hi; exact hi, fun i H l hi => by rw [hl] at hi; exact hi, fun i H x H' l y hi => ?_⟩
  obtain ⟨rfl, c, e, rfl⟩ := y
  exact ⟨chD c, by simp [e], .inl ⟨rfl, .str _⟩⟩
theorem itok_rng {K : PySem.W.Frag} {F : Hp} {lo : Int} {n : Nat} (hz : n ≤ 16777216) : ItOk K (Itr lo n) F (rngD lo n) := by
  have hl : (rngD lo n).length = n := by simp [rngD]
  refine ⟨by rw [hl]; exact hz, fun i H l hi => by rw [hl] at hi; exact hi, fun i H l hi => by rw [hl] at hi; exact hi, fun i H x H' l y hi => ?_⟩
  obtain ⟨rfl, rfl⟩ := y
  rw [hl] at hi
  refine ⟨.int (lo + i), ?_, .inl ⟨rfl, .int _⟩⟩
  simp [rngD, hi]
theorem enumD_get : ∀ (ds : List D) (k i : Nat), (enumD k ds)[i]? = (ds[i]?).map fun d => .tup [.int ((k + i : Nat) : Int), d]
  | [], _, _ => rfl
  | d :: ds, k, 0 => by simp [enumD]
  | d :: ds, k, i + 1 => by
    show (enumD (k + 1) ds)[i]? = _
    rw [enumD_get ds (k + 1) i]
    simp [Nat.add_assoc, Nat.add_comm 1 i]
theorem enumD_len : ∀ (ds : List D) (k : Nat), (enumD k ds).length = ds.length
  | [], _ => rfl
  | _ :: ds, k => congrArg (· + 1) (enumD_len ds (k + 1))
theorem itok_enum {K : PySem.W.Frag} {F : Hp} {a : Addr} {vs : List V} {ds : List D} (h : Rd F a (.lst vs)) (r : RL K F vs ds) (hz : vs.length ≤ sizeLine) : ItOk K (Ite K a) F (enumD 0 ds) := by
  refine ⟨by rw [enumD_len, ← r.length, ← line_eq]; exact hz, fun i H l hi => ?_, fun i H l hi => ⟨vs, .inl (l.rd _ _ rfl h), by rw [r.length]; rw [enumD_len] at hi; exact hi⟩, fun i H x H' l y hi => ?_⟩
  · rw [enumD_len, ← r.length] at hi
    exact ⟨vs, vs[i], .inl (l.rd _ _ rfl h), by simp [hi]⟩
  · obtain ⟨T, x, rfl, nT, rfl, y⟩ := y
    obtain ⟨d, e, q⟩ := r.get' (y vs (.inl (l.rd _ _ rfl h)))
    exact ⟨.tup [.int (i : Nat), d], by rw [enumD_get, e]; simp, .inr ⟨T, _, _, nT, rfl, rfl, rfl, .cons (.int _) (.cons q .nil)⟩⟩
/-- enumerate of a tuple -/
def IteT (K : PySem.W.Frag) (a : Addr) : L2.It :=
  ⟨fun i H => ∃ (xs : List V) (x : V), SqT K H a xs ∧ xs[i]? = some x, fun i H v H' => ∃ T x, v = .ref T ∧ H T = none ∧ H' = upd H T (.tup [.int (i : Nat), x]) ∧ ∀ xs, SqT K H a xs → xs[i]? = some x, fun i H => ∃ xs : List V, SqT K H a xs ∧ xs.length ≤ i⟩
theorem itok_enumT {K : PySem.W.Frag} {F : Hp} {a : Addr} {vs : List V} {ds : List D} (h : SqT K F a vs) (r : RL K F vs ds) (hz : vs.length ≤ sizeLine) : ItOk K (IteT K a) F (enumD 0 ds) := by
  refine ⟨by rw [enumD_len, ← r.length, ← line_eq]; exact hz, fun i H l hi => ?_, fun i H l hi => ⟨vs, l.sqT h, by rw [r.length]; rw [enumD_len] at hi; exact hi⟩, fun i H x H' l y hi => ?_⟩
  · rw [enumD_len, ← r.length] at hi
    exact ⟨vs, vs[i], l.sqT h, by simp [hi]⟩
  · obtain ⟨T, x, rfl, nT, rfl, y⟩ := y
    obtain ⟨d, e, q⟩ := r.get' (y vs (l.sqT h))
    exact ⟨.tup [.int (i : Nat), d], by rw [enumD_get, e]; simp, .inr ⟨T, _, _, nT, rfl, rfl, rfl, .cons (.int _) (.cons q .nil)⟩⟩
theorem turn_enumT {P : Program} {w : World} {K : PySem.W.Frag} {elts : List Expr} {kk : Nat} {tpos : Pos} (a e it : Addr) (hne : e ≠ it) (hae : a ≠ e) (hai : a ≠ it) :
    Turn P w K (.Tuple elts kk tpos) (IteT K a) [e, it] e (fun i h => (∃ old, IsEnum h e it ((i : Nat) : Int) old) ∧ h.IsTupleIter it a i) where
  mem := by simp
  obj := fun i h st b hb => by
    obtain ⟨⟨old, he⟩, ⟨o, ho, hc, hd⟩⟩ := st
    have e' : b = e ∨ b = it := by simpa using hb
    rcases e' with z | z
    · rw [z]; exact ⟨_, he, fun v q => nomatch q⟩
    · rw [z]; exact ⟨o, ho, fun v q => by rw [hd] at q; cases q⟩
  keep := fun i h h' st k => let ⟨⟨old, he⟩, hi⟩ := st; ⟨⟨old, k e (by simp) _ he⟩, hi.at fun o q => k it (by simp) o q⟩
  item := by
    intro X hP hw hK hc i pins s σ H E I hf st hg
    subst hP hw hK
    obtain ⟨⟨old, he⟩, hit⟩ := st
    obtain ⟨xs, x, hq, hx⟩ := hg
    obtain ⟨its, rv, p, hz⟩ := I.tuple hq
    obtain ⟨u, hu, ru⟩ := rv.get hx
    have hel : e < s.heap.objs.size := Heap.lt_size he
    have hil : it < s.heap.objs.size := by obtain ⟨_, q, _⟩ := hit; exact Heap.lt_size q
    have hlt : i < its.toArray.size := by simpa using (List.getElem?_eq_some_iff.mp hu).1
    refine wpAny_pyNext_enum_itemD (Draws.tuple (A := X.A.in1) (I.ok.hd hc) it a hai its.toArray) he ⟨hit, p⟩ hlt hne (by simp [hne, Ne.symm hae]) fun u' h' tk eu ho hit' hT hsz hk => ?_
    have eu' : u' = u := by
      have : its[i]? = some u' := by simpa using eu
      rw [hu] at this; exact (Option.some.inj this).symm
    subst eu'
    refine ⟨_, rfl, wpAny_letOwnedTupleGo_enum (s := { s with heap := h', toks := tk + 1 }) ho fun h'' he' sb => ?_⟩
    have hT2 : h''.get? s.heap.objs.size = some { cls := .type "tuple", data := .seq #[.int i tk, u'] } := (sb.2 _ (Nat.ne_of_gt hel)).trans hT
    have new : ObjOk X.prog X.w (upd H s.heap.objs.size (.tup [.int (i : Nat), x])) h'' s.heap.objs.size (.tup [.int (i : Nat), x]) :=
      ⟨by show 2 ≤ sizeLine; decide, [.int i tk, u'], .cons ⟨_, rfl⟩ (.cons ru .nil), ⟨_, hT2, rfl, _, rfl⟩⟩
    have I1 : Inv X pins σ (upd H s.heap.objs.size (.tup [.int (i : Nat), x])) { s with heap := h'', toks := tk + 1 } :=
      I.turnedNew (ch := [e, it]) (fun b ob hb q => (sb.2 b (fun z => hb (by simp [z]))).trans (hk b ob (fun z => hb (by simp [z])) (fun z => hb (by simp [z])) q)) hf (Nat.le_refl _) new
    refine ⟨.ref s.heap.objs.size, _, I1, rfl, ⟨_, x, rfl, I.hok.fresh (Nat.le_refl _), rfl, fun ys hy => by rw [I.tuple_inj hy hq]; exact hx⟩, ⟨⟨u', ?_⟩, hit'.1.at fun o q => (sb.2 it (Ne.symm hne)).trans q⟩, fun b hb => ?_⟩
    · have e1 : ((i + 1 : Nat) : Int) = (i : Int) + 1 := by omega
      rw [e1]; exact he'
    · have hb' : b < s.heap.objs.size := by
        have e' : b = e ∨ b = it := by simpa using hb
        rcases e' with z | z
        · rw [z]; exact hel
        · rw [z]; exact hil
      rw [upd_ne (Nat.ne_of_lt hb')]
      exact (hf b hb).1
  done := by
    intro X hP hw hK hc i pins s σ H E I hf st hg
    subst hP hw hK
    obtain ⟨⟨old, he⟩, hit⟩ := st
    obtain ⟨xs, hq, hx⟩ := hg
    obtain ⟨its, rv, p, hz⟩ := I.tuple hq
    obtain ⟨f0, f1, f2, f3, f4, f5⟩ := hf it (by simp)
    have hl := rv.length
    have hT : s.TypeIs (.ref e) "enumerate" := ⟨_, he, rfl⟩
    unfold pyNext
    refine wpAny_bind (wpAny_attempt (wpAny_callSpecial?_slot (name := Str.ofString "__next__") hT PySem.F.slot_enumerate_next
      (wpAny_call_entry PySem.F.slot_enumerate_next hT PySem.F.entry_enumerate_next ?_ (PySem.F.args_enumerate_next_1 _))))
    show wpAny _ _ (field (.ref e) 2 >>= _) _ _ _
    refine wpAny_bind (wpAny_field he rfl (x := .ref it) rfl ?_)
    refine wpAny_bind (wpAny_nextOf_tuple_end (A := X.A.in1) (I.ok.hd hc) hit p (by simp; omega) fun h' x he' hx' => ?_)
    obtain ⟨o, ho, hc'⟩ := hx'
    refine wpAny_bind (wpAny_isInstance (T := "StopIteration") (b := true) ⟨o, ho, hc'⟩ isSubtype_stop ?_)
    exact wpAny_pure ⟨rfl, I.turned (t' := s.toks) (fun b o hb q => he' b o hb q) f0 f1 f3 f4 f5⟩
  self := fun A i s Q E st h => let ⟨⟨_, he⟩, _⟩ := st; wpAny_pyIter_enum he h
end
end DL

namespace DL
open PySem PySem.Spec PyProof.Rows L2

set_option maxHeartbeats 1000000 in
theorem meets_enum1 {v : Value} {o : Obj} {H : Heap → Prop} (B : Begins v o H) :
    Meets (Builtin.«enumerate.__new__» ⟨[.type "enumerate", v], []⟩) (fun _ R s => H s.heap ∧
      R (.ok (.ret (.ref (s.heap.push o).objs.size))) { s with heap := (s.heap.push o).push { cls := .type "enumerate", data := .fields #[.none, .bool false, .ref s.heap.objs.size, rawInt 0, .none, .none] } }) :=
  .of_wp fun prog w A R s h => by
    obtain ⟨hp, g, d, tk, os⟩ := s; obtain ⟨h1, h⟩ := h
    have hsub := sub_enumerate
    have q1 : ∀ {A' : Around} {E : Value → Shared → Prop} {Q : Value → Shared → Prop}, Q (.ref hp.objs.size) ⟨hp.push o, g, d, tk, os⟩ → wpAny (model prog w) A' (pyIter v) Q E ⟨hp, g, d, tk, os⟩ :=
      fun q => B.iter prog w _ _ ⟨hp, g, d, tk, os⟩ _ h1 q
    wp_walk using q1
    refine wpAny_stack_any fun st => wpAny_pure ?_
    split
    · rename_i c _ _ _ _ _
      cases (c == Value.type "enumerate")
      · wp_walk using q1
        exact ⟨_, rfl, h⟩
      · wp_walk using q1
        exact ⟨_, rfl, h⟩
    · wp_walk using q1
      exact ⟨_, rfl, h⟩
section
variable {prog : Program} {w : World} {A : Around} {E : Value → Shared → Prop} {s : Shared}
theorem enum_begins1 {v : Value} {o : Obj} {H : Heap → Prop} {Q : Value → Shared → Prop} (B : Begins v o H) (h1 : H s.heap)
    (h : ∀ h', IsEnum h' (s.heap.objs.size + 1) s.heap.objs.size 0 .none → h'.get? s.heap.objs.size = some o → h'.objs.size = s.heap.objs.size + 2 →
      (∀ b o, s.heap.get? b = some o → h'.get? b = some o) → Q (.ref (s.heap.objs.size + 1)) { s with heap := h' }) :
    wpAny (model prog w) A (call (.type "enumerate") [v]) Q E s := by
  refine callType_new PySem.F.called_enumerate (by decide) (PySem.F.typeCall_enumerate_1 _) (PySem.F.newCall_enumerate_1 _) (fun obj => PySem.F.args_object_init_2 obj _) PySem.F.entry_enumerate_new
    (meets_enum1 B) ⟨h1, ?_⟩
  have hz : (s.heap.push o).objs.size = s.heap.objs.size + 1 := Heap.size_push ..
  show _ ∧ _
  rw [hz]
  have he : IsEnum ((s.heap.push o).push { cls := .type "enumerate", data := .fields #[.none, .bool false, .ref s.heap.objs.size, rawInt 0, .none, .none] }) (s.heap.objs.size + 1) s.heap.objs.size 0 .none := by
    have := Heap.get?_push_size (s.heap.push o) (o := { cls := .type "enumerate", data := .fields #[.none, .bool false, .ref s.heap.objs.size, rawInt 0, .none, .none] }) rfl
    rw [hz] at this; exact this
  refine ⟨⟨_, he, rfl⟩, h _ he (Heap.get?_push_of_some _ (Heap.get?_push_size _ B.free)) (by rw [Heap.size_push, hz]) fun b o x => Heap.get?_push_of_some _ (Heap.get?_push_of_some _ x)⟩
end

theorem R.key {K : PySem.W.Frag} {F : Hp} (k : Key) : R K F (kV k) (keyD k) := by
  cases k with
  | inl i => exact .int i
  | inr x => exact .str x
theorem itok_keys {K : PySem.W.Frag} {F : Hp} {d : Addr} {o : Obj} {vs : List (Key × V)} {ds : List (Key × D)} (h : F d = some (.frz o (.dK vs))) (r : RK K F vs ds) (hz : ds.length ≤ 16777216) : ItOk K (Itk d o vs) F (ds.map fun kv => keyD kv.1) where
  len := by simpa using hz
  go := fun i H l hi => ⟨l.ex _ _ rfl h, by rw [r.length]; simpa using hi⟩
  stop := fun i H l hi => ⟨l.ex _ _ rfl h, by rw [r.length]; simpa using hi⟩
  yld := fun i H x H' l y hi => by
    obtain ⟨rfl, k, v, ek, rfl⟩ := y
    have e : (vs.map (·.1))[i]? = some k := by rw [List.getElem?_map, ek]; rfl
    rw [r.keys, List.getElem?_map] at e
    obtain ⟨p, e1, e2⟩ := Option.map_eq_some_iff.mp e
    refine ⟨keyD k, by rw [List.getElem?_map, e1, ← e2]; rfl, .inl ⟨rfl, R.key k⟩⟩
section
variable {X : Cx} {W : WX} {pn : List (Addr × Obj)}
theorem lock_it {pins : List (Addr × Obj)} {s : Shared} {σ : L2.St} {F H : Hp} {α : Al} {μ : Mu} {b : Addr} {vs : List (Key × V)} {ds : List (Key × D)} (I : Inv X pins σ H s) (h : Hold X.K F H α μ) (hs : Rd F b (.dK vs)) (r : RK X.K F vs ds) :
    ∃ o F' H', Inv X pins σ H' s ∧ Go F F' α α ∧ Hold X.K F' H' α μ ∧ F' b = some (.frz o (.dK vs)) ∧ H' b = some (.frz o (.dK vs)) ∧ RK X.K F' vs ds := by
  rcases hs with hs | ⟨o, hs⟩
  · rcases h.le.rd b _ rfl (.inl hs) with q | ⟨o, q⟩
    · obtain ⟨od, I'⟩ := I.lock q trivial
      obtain ⟨h', g⟩ := h.lock hs od
      exact ⟨od, _, _, I', g, h', upd_same, upd_same, r.mono g.1⟩
    · obtain ⟨h', g⟩ := h.lock hs o
      have e : upd H b (.frz o (.dK vs)) = H := by
        funext a
        by_cases z : a = b
        · subst z; rw [upd_same, q]
        · rw [upd_ne z]
      rw [e] at h'
      exact ⟨o, _, H, I, g, h', upd_same, q, r.mono g.1⟩
  · exact ⟨o, F, H, I, .refl, h, hs, h.le.ex _ _ rfl hs, r⟩
theorem di_seq {tg e : Expr} {a : E} (he : PE X e (tE X.K pn W a)) : PI X tg e (tI X.K pn W (.seq a)) := by
  refine ⟨fun pins s σ H Rr I h => ?_⟩
  obtain ⟨F, α, ρ, μ, hd, sl, w⟩ := h
  refine thn (he.run pins s σ H (fun x H1 => ∃ F2 α2 μ2 d ds, Go F F2 α α2 ∧ Hold X.K F2 H1 α2 μ2 ∧ R X.K F2 x d ∧ seqD d = some ds ∧ ∀ J F' α' H', Go F F' α α' → Hold X.K F' H' α' μ2 → ItOk X.K J F' ds → Rr J H') I ?_) fun v s1 ⟨x, H1, I1, r1, F2, α2, μ2, d, ds, g2, h2, rd, ed, q⟩ => ?_
  · refine one1 hd sl w fun r1 μ1 v1 F1 α1 H1 g1 h1 rv1 p => ?_
    obtain ⟨⟨d, μ2⟩, e1, p⟩ := opt.of p
    obtain ⟨F2, g2, h2, r2⟩ := h1.freeze rv1 e1
    obtain ⟨ds, e2, p⟩ := opt.of p
    exact ⟨F2, α1, μ2, d, ds, g1.trans g2, h2, r2, e2, p⟩
  · cases rd with
    | lst hs rl =>
      rename_i b vs es
      cases ed
      cases (show v = Value.ref b from r1)
      have hq : SqL X.K H1 b vs := .inl (h2.le.rd _ _ rfl hs)
      obtain ⟨its, rv, p, hz⟩ := I1.list hq
      refine wpAny_pyIter_list p.isList ?_
      refine ⟨s1.heap.objs.size, [s1.heap.objs.size], _, _, H1, rfl, I1.kept (t' := s1.toks) fun b o e => Heap.get?_push_of_some _ e, turn_list b _, ⟨_, Heap.get?_push_size _ rfl, rfl, rfl⟩, fun c hb => ?_, ?_⟩
      · have e : c = s1.heap.objs.size := by simpa using hb
        subst e
        exact I1.fpOk (Nat.le_refl _) (I1.hok.fresh (Nat.le_refl _))
      · exact q _ F2 α2 H1 g2 h2 (itok_list hs rl hz)
    | tup hs rl =>
      rename_i b vs es
      cases ed
      cases (show v = Value.ref b from r1)
      have hq : SqT X.K H1 b vs := h2.le.sqT hs
      obtain ⟨its, rv, p, hz⟩ := I1.tuple hq
      refine wpAny_pyIter_tuple (show s1.heap.IsTuple b its.toArray from p) ?_
      refine ⟨s1.heap.objs.size, [s1.heap.objs.size], _, _, H1, rfl, I1.kept (t' := s1.toks) fun b o e => Heap.get?_push_of_some _ e, turn_tuple b _, ⟨_, Heap.get?_push_size _ rfl, rfl, rfl⟩, fun c hb => ?_, ?_⟩
      · have e : c = s1.heap.objs.size := by simpa using hb
        subst e
        exact I1.fpOk (Nat.le_refl _) (I1.hok.fresh (Nat.le_refl _))
      · exact q _ F2 α2 H1 g2 h2 (itok_tup hs rl hz)
    | str z =>
      have ed : (if z.length ≤ 16777216 then some (z.cps.toList.map chD) else none) = some ds := ed
      split at ed
      · rename_i hz
        cases ed
        obtain ⟨t, rfl⟩ := r1
        have qq := q _ F2 α2 H1 g2 h2 (itok_str hz)
        cases ha : z.cps.all (· < 128)
        · exact wpAny_pyIter_wide ha (pi_one (tk := s1.toks) I1 _ (turn_str _ z t "str_iterator" (.inr rfl)) ⟨_, Heap.get?_push_size _ rfl, rfl, rfl⟩ qq)
        · exact wpAny_pyIter_ascii ha (pi_one (tk := s1.toks) I1 _ (turn_str _ z t "str_ascii_iterator" (.inl rfl)) ⟨_, Heap.get?_push_size _ rfl, rfl, rfl⟩ qq)
      · cases ed
    | dK hs rl =>
      rename_i b vs es
      have ed : (if es.length ≤ 16777216 then some (es.map fun kv => keyD kv.1) else none) = some ds := ed
      split at ed
      · rename_i hz
        cases ed
        cases (show v = Value.ref b from r1)
        obtain ⟨o, F3, H3, I3, g3, h3, e3, e4, rk⟩ := lock_it I1 h2 hs rl
        have qq := q _ F3 α2 H3 (g2.trans g3) h3 (itok_keys e3 rk hz)
        obtain ⟨k1, k2, k3, es', ep, ws, k4, k5, k6, k7⟩ := I3.frzK e4
        refine iter_keys k1 k2 k3 k4 (pi_one (tk := s1.toks) I3 _ (turn_keys _ k4) ⟨_, Heap.get?_push_size _ rfl, rfl, ?_⟩ qq)
        rw [k5] <;> rfl
      · cases ed
    | _ => cases ed
theorem di_rng {tg e : Expr} {p pos : Pos} {a : E} (hg : Gl X "range") (hm : X.mg "range" = none) (he : PE X e (tE X.K pn W a)) (hst : ∀ x p, e ≠ .Starred x p) : PI X tg (.Call (.Name "range" p) [e] [] pos) (tI X.K pn W (.rng a)) := by
  have hs := notStar hst [] X.env
  refine PI.imp (pi_range1 hg hm (pa_cons he pa_nil hs) hs) ?_
  rintro σ H Q ⟨F, α, ρ, μ, h, sl, w⟩
  refine one1 h sl w fun r1 μ1 v1 F1 α1 H1 g1 h1 rv1 p => ?_
  split at p
  · rename_i n
    obtain ⟨hz, p⟩ := p
    have hz := of_decide_eq_true hz
    cases rv1
    exact ⟨n, rfl, by omega, by omega, p _ F1 α1 H1 g1 h1 (itok_rng (by omega))⟩
  · exact p.elim
theorem di_rng2 {tg e e2 : Expr} {p pos : Pos} {a b : E} (hg : Gl X "range") (hm : X.mg "range" = none) (he : PE X e (tE X.K pn W a)) (he2 : PE X e2 (tE X.K pn W b)) (hst : ∀ x p, e ≠ .Starred x p) (hst2 : ∀ x p, e2 ≠ .Starred x p) : PI X tg (.Call (.Name "range" p) [e, e2] [] pos) (tI X.K pn W (.rng2 a b)) := by
  have hs2 := notStar hst2 [] X.env
  have hs := notStar hst [e2] X.env
  refine PI.imp (pi_range2 hg hm (pa_cons he (pa_cons he2 pa_nil hs2) hs) (by rw [hs, hs2]; rfl) hs2) ?_
  rintro σ H Q ⟨F, α, ρ, μ, h, sl, w⟩
  refine two2 h sl w fun r1 r2 μ2 v1 v2 F2 α2 H2 g2 h2 rv1 rv2 p => ?_
  split at p
  · rename_i m n
    obtain ⟨hz, hz2, hz3, p⟩ := p
    have hz := of_decide_eq_true hz
    have hz2 := of_decide_eq_true hz2
    have hz3 := of_decide_eq_true hz3
    cases rv1; cases rv2
    exact ⟨m, n, rfl, ⟨by omega, by omega, by omega, by omega⟩, p _ F2 α2 H2 g2 h2 (itok_rng (by omega))⟩
  · exact p.elim
theorem di_enm {e : Expr} {p pos tpos : Pos} {elts : List Expr} {kk : Nat} {a : E} (hg : Gl X "enumerate") (hm : X.mg "enumerate" = none) (he : PE X e (tE X.K pn W a)) (hst : ∀ x p, e ≠ .Starred x p) : PI X (.Tuple elts kk tpos) (.Call (.Name "enumerate" p) [e] [] pos) (tI X.K pn W (.enm a)) := by
  have hs := notStar hst [] X.env
  refine ⟨fun pins s σ H Rr I h => ?_⟩
  obtain ⟨F, α, ρ, μ, hd, sl, w⟩ := h
  have ha : PA X [e] (tCons (tE X.K pn W a) tNil) := pa_cons he pa_nil hs
  refine Call_ (ld_blt I hg hm PyProof.Rows.boot_enumerate (PyProof.Rows.callWith_type1 (thn (ha.run pos pins s σ H (fun vs H1 => ∃ x F2 α2 μ2 d ds, vs = [x] ∧ Go F F2 α α2 ∧ Hold X.K F2 H1 α2 μ2 ∧ R X.K F2 x d ∧ (d = .lst ds ∨ d = .tup ds) ∧ ∀ J F' α' H', Go F F' α α' → Hold X.K F' H' α' μ2 → ItOk X.K J F' (enumD 0 ds) → Rr J H') I ?_) fun us s1 ⟨vs, H1, I1, r1, x, F2, α2, μ2, d, ds, ev, g2, h2, rd, ed, q⟩ => ?_) hs rfl))
  · refine one1 hd sl w fun r1 μ1 v1 F1 α1 H1 g1 h1 rv1 p => ?_
    obtain ⟨⟨d, μ2⟩, e1, p⟩ := opt.of p
    obtain ⟨F2, g2, h2, r2⟩ := h1.freeze rv1 e1
    cases d with
    | lst ds => exact ⟨v1, F2, α1, μ2, _, ds, rfl, g1.trans g2, h2, r2, .inl rfl, p⟩
    | tup ds => exact ⟨v1, F2, α1, μ2, _, ds, rfl, g1.trans g2, h2, r2, .inr rfl, p⟩
    | _ => exact p.elim
  · subst ev
    obtain ⟨u, rfl, rx⟩ := vals1 r1
    have fresh2 : ∀ c, c ∈ [s1.heap.objs.size + 1, s1.heap.objs.size] → FpOk X pins H1 c := fun c hc => by
      have e' : c = s1.heap.objs.size + 1 ∨ c = s1.heap.objs.size := by simpa using hc
      have hle : s1.heap.objs.size ≤ c := by rcases e' with z | z <;> omega
      exact I1.fpOk hle (I1.hok.fresh hle)
    cases rd with
    | lst hs' rl =>
      rename_i b vs es
      have : es = ds := by rcases ed with z | z <;> cases z; rfl
      subst this
      cases (show u = Value.ref b from rx)
      have hq : SqL X.K H1 b vs := .inl (h2.le.rd _ _ rfl hs')
      obtain ⟨its, rv, p', hz⟩ := I1.list hq
      refine call_enumerate_list p'.isList fun h' he hit hsz hk => wpAny_pyIter_enum he ?_
      have I2 : Inv X pins σ H1 { s1 with heap := h' } := I1.kept (t' := s1.toks) hk
      exact ⟨s1.heap.objs.size + 1, [s1.heap.objs.size + 1, s1.heap.objs.size], _, _, H1, rfl, I2, turn_enum b (s1.heap.objs.size + 1) s1.heap.objs.size, ⟨⟨.none, he⟩, hit, Nat.succ_ne_self _⟩, fresh2, q _ F2 α2 H1 g2 h2 (itok_enum hs' rl hz)⟩
    | tup hs' rl =>
      rename_i b vs es
      have : es = ds := by rcases ed with z | z <;> cases z; rfl
      subst this
      cases (show u = Value.ref b from rx)
      have hq : SqT X.K H1 b vs := h2.le.sqT hs'
      obtain ⟨its, rv, p', hz⟩ := I1.tuple hq
      have hb : b < s1.heap.objs.size := p'.lt
      refine enum_begins1 (begins_tuple b its.toArray) p' fun h' he hit hsz hk => wpAny_pyIter_enum he ?_
      have I2 : Inv X pins σ H1 { s1 with heap := h' } := I1.kept (t' := s1.toks) hk
      exact ⟨s1.heap.objs.size + 1, [s1.heap.objs.size + 1, s1.heap.objs.size], _, _, H1, rfl, I2, turn_enumT b (s1.heap.objs.size + 1) s1.heap.objs.size (Nat.succ_ne_self _) (Nat.ne_of_lt (Nat.lt_succ_of_lt hb)) (Nat.ne_of_lt hb), ⟨⟨.none, he⟩, ⟨_, hit, rfl, rfl⟩⟩, fresh2, q _ F2 α2 H1 g2 h2 (itok_enumT hs' rl hz)⟩
    | _ => rcases ed with z | z <;> cases z

theorem Slots.set {K : PySem.W.Frag} {F : Hp} {α : Al} {ρ : Rho} {σ : L2.St} {i : Nat} {rv : RV} {v : V} (h : Slots K pn F α ρ σ) (r : RvR K pn F α rv v) : Slots K pn F α (ρ.set i (some rv)) (σ.set i (some v)) := by
  refine ⟨by simp [h.1], fun j rv' e => ?_⟩
  rw [List.getElem?_set] at e
  split at e
  · rename_i q
    subst q
    split at e
    · rename_i hl
      cases e
      exact ⟨v, by rw [List.getElem?_set_self (by rw [← h.1]; exact hl)], r⟩
    · cases e
  · rename_i q
    rw [List.getElem?_set_ne q]
    exact h.2 j rv' e
def gNames : List Nat → TGs
  | [] => gNil
  | i :: is => gCons (gName i) (gNames is)
def gOf (K : PySem.W.Frag) : Tg → TG
  | .nm i => gName i
  | .tp is => gTup K is.length (gNames is)
theorem wipe_set {σ : L2.St} {i : Nat} {v : Option V} : ∀ {vs : List Nat}, i ∈ vs → wipe (σ.set i v) vs = wipe σ vs
  | j :: vs, h => by
    show (wipe (σ.set i v) vs).set j none = (wipe σ vs).set j none
    by_cases q : i ∈ vs
    · rw [wipe_set q]
    · have : i = j := by rcases List.mem_cons.mp h with z | z; exact z; exact absurd z q
      subst this
      have key : ∀ (vs : List Nat), i ∉ vs → wipe (σ.set i v) vs = (wipe σ vs).set i v := by
        intro vs
        induction vs with
        | nil => intro _; rfl
        | cons k vs ih =>
          intro hn
          show (wipe (σ.set i v) vs).set k none = ((wipe σ vs).set k none).set i v
          rw [ih (fun z => hn (List.mem_cons_of_mem _ z)), List.set_comm _ _ (fun z => hn (by rw [z]; exact List.mem_cons_self))]
      rw [key vs q, List.set_set]
theorem wipe_wipe2 (σ : L2.St) (vs : List Nat) : L2.wipe (L2.wipe σ vs) vs = L2.wipe σ vs := by
  apply List.ext_getElem?
  intro i
  have key : ∀ (ws : List Nat) (τ : L2.St), (L2.wipe τ ws)[i]? = if i ∈ ws then (τ[i]?).map fun _ => none else τ[i]? := by
    intro ws τ
    induction ws with
    | nil => simp [L2.wipe]
    | cons k ws ih =>
      show ((L2.wipe τ ws).set k none)[i]? = _
      rw [List.getElem?_set, ih, wipe_length]
      by_cases q : k = i
      · subst q
        rw [if_pos rfl, if_pos List.mem_cons_self]
        by_cases hl : k < τ.length
        · rw [if_pos hl, List.getElem?_eq_getElem hl]; rfl
        · rw [if_neg hl, List.getElem?_eq_none (by omega)]; rfl
      · rw [if_neg q]
        by_cases hm : i ∈ ws
        · rw [if_pos hm, if_pos (List.mem_cons_of_mem _ hm)]
        · rw [if_neg hm, if_neg (by simp [hm, Ne.symm q])]
  rw [key vs (L2.wipe σ vs), key vs σ]
  split
  · cases σ[i]? <;> rfl
  · rfl
theorem names_in {K : PySem.W.Frag} {F : Hp} {α : Al} {H : Hp} {Q : L2.St → Hp → Prop} : ∀ {is : List Nat} {ds : List D} {vs : List V} {ρ ρ' : Rho} {σ : L2.St}, RL K F vs ds → setAll is ds ρ = some ρ' → Slots K pn F α ρ σ →
    (∀ σ', Slots K pn F α ρ' σ' → (∀ ws, (∀ i ∈ is, i ∈ ws) → wipe σ' ws = wipe σ ws) → Q σ' H) → gNames is vs σ H Q
  | [], [], _, _, _, _, .nil, e, sl, q => by cases e; exact ⟨rfl, q _ sl fun _ _ => rfl⟩
  | i :: is, d :: ds, _, ρ, ρ', σ, .cons r rl, e, sl, q => by
    refine ⟨_, _, rfl, ?_⟩
    refine names_in rl (show setAll is ds (ρ.set i (some (.dat d))) = some ρ' from e) (sl.set (rv := .dat d) r) fun σ' sl' hw => q σ' sl' fun ws hi => ?_
    rw [hw ws (fun j hj => hi j (List.mem_cons_of_mem _ hj)), wipe_set (hi i List.mem_cons_self)]
  | [], _ :: _, _, _, _, _, _, e, _, _ => by cases e
  | _ :: _, [], _, _, _, _, _, e, _, _ => by cases e
theorem setAll_len : ∀ {is : List Nat} {ds : List D} {ρ ρ' : Rho}, setAll is ds ρ = some ρ' → ds.length = is.length
  | [], [], _, _, _ => rfl
  | _ :: is, _ :: ds, _, _, e => congrArg (· + 1) (setAll_len (is := is) (ds := ds) e)
  | [], _ :: _, _, _, e => by cases e
  | _ :: _, [], _, _, e => by cases e
theorem tg_in {K : PySem.W.Frag} {F : Hp} {α : Al} {H : Hp} {t : Tg} {d : D} {v : V} {ρ ρ' : Rho} {σ : L2.St} {Q : L2.St → Hp → Prop} (r : R K F v d) (le : Le F H) (e : tgD t d ρ = some ρ') (sl : Slots K pn F α ρ σ)
    (q : ∀ σ', Slots K pn F α ρ' σ' → wipe σ' t.slots = wipe σ t.slots → Q σ' H) : gOf K t v σ H Q := by
  cases t with
  | nm i => cases e; exact q _ (sl.set (rv := .dat d) r) (wipe_set (by simp [Tg.slots]))
  | tp is =>
    cases r with
    | tup hs rl =>
      exact ⟨_, _, rfl, le.sqT hs, by rw [rl.length]; exact setAll_len e, names_in rl e sl fun σ' sl' hw => q σ' sl' (hw _ fun _ h => h)⟩
    | _ => cases e
theorem Slots.wipe {K : PySem.W.Frag} {F : Hp} {α : Al} {ρ : Rho} {σ : L2.St} (sl : Slots K pn F α ρ σ) : ∀ vs : List Nat, Slots K pn F α (wipeR ρ vs) (L2.wipe σ vs)
  | [] => sl
  | v :: vs => by
    have ih := Slots.wipe sl vs
    refine ⟨by show ((wipeR ρ vs).set v none).length = ((L2.wipe σ vs).set v none).length; rw [List.length_set, List.length_set]; exact ih.1, fun i rv e => ?_⟩
    have e : ((wipeR ρ vs).set v none)[i]? = some (some rv) := e
    show ∃ x, ((L2.wipe σ vs).set v none)[i]? = some (some x) ∧ _
    rw [List.getElem?_set] at e
    split at e
    · split at e <;> cases e
    · rename_i q
      rw [List.getElem?_set_ne q]
      exact ih.2 i rv e
def hset (hid : Addr → Option (List V)) (p : Addr) (vs : List V) : Addr → Option (List V) := fun a => if a = p then some vs else hid a
theorem hset_same {hid : Addr → Option (List V)} {p : Addr} {vs : List V} : hset hid p vs p = some vs := by unfold hset; rw [if_pos rfl]
theorem hset_ne {hid : Addr → Option (List V)} {p a : Addr} {vs : List V} (h : a ≠ p) : hset hid p vs a = hid a := by unfold hset; rw [if_neg h]
section
variable {K : PySem.W.Frag} {F H : Hp} {as : List Addr} {hid : Addr → Option (List V)} {μ : Mu} {p : Addr} {vs ws : List V}
theorem ObR.al {a : Addr} {o : O} {hid' : Addr → Option (List V)} (h : ObR K F H ⟨as, hid⟩ a o) : ObR K F H ⟨as, hid'⟩ a o := by
  cases o with
  | lst xs => exact h
  | dic kvs => exact h
  | dit kvs => exact h
  | frz d => exact h
  | tab q => exact h
  | ins c fs =>
    exact h
theorem Hold.hide (h : Hold K F H ⟨as, hid⟩ μ) (n : H p = none) : Hold K F (upd H p (.lst vs)) ⟨as, hset hid p vs⟩ μ := by
  have h' := h.add (u := .lst vs) n
  refine ⟨h'.le, h'.fr, h'.len, h'.nd, h'.al, fun l a o e1 e2 => (h'.ob l a o e1 e2).al, fun a ws e => ?_⟩
  by_cases q : a = p
  · subst q
    have e : hset hid a vs a = some ws := e
    rw [hset_same] at e; cases e
    exact ⟨upd_same, h.fr _ n, fun z => h.al _ z n⟩
  · have e : hset hid p vs a = some ws := e
    rw [hset_ne q] at e
    exact h'.hd a ws e
theorem Hold.rehide (h : Hold K F H ⟨as, hset hid p vs⟩ μ) : Hold K F (upd H p (.lst ws)) ⟨as, hset hid p ws⟩ μ := by
  obtain ⟨e1, e2, e3⟩ := h.hd p vs hset_same
  have ne : ∀ {a : Addr} {u : HO}, H a = some u → u ≠ .lst vs → a ≠ p := by rintro a u e n rfl; rw [e1] at e; cases e; exact n rfl
  have np : ∀ {a : Addr}, a ∈ as → a ≠ p := by rintro a ha rfl; exact e3 ha
  refine ⟨h.le.upd_right e2, fun a q => ?_, h.len, h.nd, fun a ha q => ?_, fun l a o q1 q2 => ?_, fun a xs q => ?_⟩
  · by_cases z : a = p
    · subst z; rw [upd_same] at q; cases q
    · rw [upd_ne z] at q; exact h.fr a q
  · rw [upd_ne (np ha)] at q; exact h.al a ha q
  · have na := np (get_mem (α := ⟨as, hset hid p vs⟩) q1)
    refine ObR.al (hid := hset hid p vs) ((h.ob l a o q1 q2).up .refl (fun _ _ _ z => z) (fun dx z e => ⟨z, ?_⟩) fun v e => by rw [upd_ne na]; exact e)
    rw [upd_ne (ne e (fun z => nomatch z))]; exact e
  · have q : hset hid p ws a = some xs := q
    by_cases z : a = p
    · subst z
      rw [hset_same] at q; cases q
      exact ⟨upd_same, e2, e3⟩
    · rw [hset_ne z] at q
      obtain ⟨q1, q2, q3⟩ := h.hd a xs (by show hset hid p vs a = _; rw [hset_ne z]; exact q)
      exact ⟨by rw [upd_ne z]; exact q1, q2, q3⟩
theorem Hold.unhide (h : Hold K F H ⟨as, hset hid p vs⟩ μ) (n : hid p = none) : Hold K (upd F p (.lst vs)) H ⟨as, hid⟩ μ ∧ Le F (upd F p (.lst vs)) := by
  obtain ⟨e1, e2, e3⟩ := h.hd p vs hset_same
  have np : ∀ {a : Addr}, a ∈ as → a ≠ p := by rintro a ha rfl; exact e3 ha
  have l := Le.upd_self (u := .lst vs) e2
  refine ⟨⟨h.le.upd_left e2 e1 (fun _ _ z => nomatch z), fun a q => ?_, h.len, h.nd, h.al, fun l' a o q1 q2 => ?_, fun a xs q => ?_⟩, l⟩
  · rw [upd_ne (by rintro rfl; rw [e1] at q; cases q)]; exact h.fr a q
  · have na := np (get_mem (α := ⟨as, hset hid p vs⟩) q1)
    refine ObR.al (hid := hset hid p vs) ((h.ob l' a o q1 q2).up ⟨l, rfl, [], by simp⟩ (fun _ _ _ z => by rw [upd_ne na]; exact z) (fun dx z e => ⟨?_, e⟩) fun v e => e)
    rw [upd_ne (by rintro rfl; rw [e1] at e; cases e)]; exact z
  · have z : a ≠ p := by rintro rfl; have q : hid a = some xs := q; rw [n] at q; cases q
    obtain ⟨q1, q2, q3⟩ := h.hd a xs (by show hset hid p vs a = _; rw [hset_ne z]; exact q)
    exact ⟨q1, by rw [upd_ne z]; exact q2, q3⟩
end
def noX : WX := fun _ _ _ _ => False
theorem lc_main {own : List (Str × Nat)} {el : E} {t : Tg} {it : It} {c : T} (how : own.map (·.2) = t.slots)
    {σ : L2.St} {H : Hp} {Q : VK} {F : Hp} {α : Al} {ρ : Rho} {μ : Mu} (hd : Hold X.K F H α μ) (sl : Slots X.K [] F α ρ σ) {Kc : List D → Mu → Prop}
    (w : wpI it ρ μ (fun ds μ1 => compL (tgD t) (fun ρ' μ' Q' => wpT c ρ' μ' Q' fun _ _ => False) (fun ρ' μ' Q' => wpE el ρ' μ' Q' fun _ _ => False) (wipeR ρ t.slots) ds μ1 Kc) (kX X.K F α σ W))
    (fin0 : ∀ {F2 : Hp} {as2 : List Addr} {hid : Addr → Option (List V)} {μ2 : Mu} {es : List D} {vs : List V} {p : Addr} {H' : Hp}, Go F F2 α ⟨as2, hid⟩ → Hold X.K F2 H' ⟨as2, hset hid p vs⟩ μ2 → hid p = none → RL X.K F2 vs es → Kc es μ2 → Q (.ref p) H') :
    tLc (tI X.K [] W it) (gOf X.K t) (tT X.K [] noX c) (tE X.K [] noX el) (own.map (·.2)) σ H Q := by
  refine ⟨F, α, ρ, μ, hd, sl, wpI.imp it w (fun ds μ1 w J F1 α1 H1 g1 h1 J1 p np => ?_) fun _ _ x => x⟩
  rw [how]
  let Cl := fun (ds : List D) (μ : Mu) (Q : QD) => compL (tgD t) (fun ρ' μ' Q' => wpT c ρ' μ' Q' fun _ _ => False) (fun ρ' μ' Q' => wpE el ρ' μ' Q' fun _ _ => False) (wipeR ρ t.slots) ds μ Q
  let St := fun (i : Nat) (H' : Hp) => ∃ F2 as2 μ2 es vs, Le F1 F2 ∧ (∃ β, as2 = α1.as ++ β) ∧ Hold X.K F2 H' ⟨as2, hset α1.hid p vs⟩ μ2 ∧ RL X.K F2 vs es ∧ es.length ≤ i ∧ Cl (ds.drop i) μ2 (fun es' μ3 => Kc (es ++ es') μ3)
  have nh : α1.hid p = none := by
    cases q : α1.hid p with
    | none => rfl
    | some ws => have := (h1.hd p ws q).1; rw [np] at this; cases this
  refine ⟨fun i m H' => m = ds.length - i ∧ i ≤ ds.length ∧ St i H', ⟨_, rfl, Nat.zero_le _, F1, α1.as, μ1, [], [], .refl, ⟨[], by simp⟩, h1.hide np, .nil, Nat.zero_le _, w⟩, ?_⟩
  rintro i m H' ⟨rfl, hi', F2, as2, μ2, es, vs, l2, ⟨β, eβ⟩, h2, rl, hl, cl⟩
  have g2 : Go F F2 α ⟨as2, α1.hid⟩ := g1.trans ⟨l2, rfl, β, eβ⟩
  by_cases hlt : i < ds.length
  · refine .inr ⟨J1.go i H' (l2.trans h2.le) hlt, fun H'' => i + 1 ≤ ds.length ∧ St (i + 1) H'', fun H'' n => ⟨_, by omega, rfl, n⟩, fun x H'' y => ?_⟩
    obtain ⟨d, ed, yy⟩ := J1.yld i H' x H'' (l2.trans h2.le) y hlt
    have eds : ds.drop i = d :: ds.drop (i + 1) := by
      obtain ⟨q1, q2⟩ := List.getElem?_eq_some_iff.mp ed
      rw [List.drop_eq_getElem_cons q1, q2]
    rw [eds] at cl
    obtain ⟨ρ', eρ, cl⟩ := opt.of cl
    -- the item as a value, the heap at the turn's beginning
    obtain ⟨F3, h3, l3, rx⟩ : ∃ F3, Hold X.K F3 H'' ⟨as2, hset α1.hid p vs⟩ μ2 ∧ Le F2 F3 ∧ R X.K F3 x d := by
      rcases yy with ⟨rfl, rx⟩ | ⟨T, ys, es', nT, rfl, rfl, rfl, rls⟩
      · exact ⟨F2, h2, .refl, rx.mono l2⟩
      · obtain ⟨h3, g3⟩ := h2.new (u := .tup ys) nT fun _ _ z => nomatch z
        exact ⟨_, h3, g3.1, .tup (SqT.of upd_same) ((rls.mono l2).mono g3.1)⟩
    have sl2 : ∀ {hid' : Addr → Option (List V)}, Slots X.K [] F3 ⟨as2, hid'⟩ ρ σ := by
      intro hid'
      have z := sl.mono (g2.trans (α'' := ⟨as2, α1.hid⟩) ⟨l3, rfl, [], by simp⟩)
      refine ⟨z.1, fun i rv e => ?_⟩
      obtain ⟨v, e1, e2⟩ := z.2 i rv e
      refine ⟨v, e1, ?_⟩
      cases rv with
      | dat d => exact e2
      | loc l => exact e2
      | exc c l => exact e2
      | since _ _ _ => exact e2
    have sl3 : Slots X.K [] F3 ⟨as2, hset α1.hid p vs⟩ (wipeR ρ t.slots) (L2.wipe σ t.slots) := Slots.wipe sl2 _
    have fin : ∀ {F4 : Hp} {α4 : Al} {H4 : Hp} {μ4 : Mu} {es4 : List D} {vs4 : List V}, Go F3 F4 ⟨as2, hset α1.hid p vs⟩ α4 → ∀ {hid4}, hid4 = hset α1.hid p vs4 → Hold X.K F4 H4 ⟨α4.as, hid4⟩ μ4 → RL X.K F4 vs4 es4 → es4.length ≤ i + 1 → Cl (ds.drop (i + 1)) μ4 (fun es' μ3 => Kc (es4 ++ es') μ3) → i + 1 ≤ ds.length ∧ St (i + 1) H4 := by
      intro F4 α4 H4 μ4 es4 vs4 g4 hid4 e4 h4 rl4 hl4 cl4
      subst e4
      obtain ⟨l4, _, γ, eγ⟩ := g4
      exact ⟨hlt, F4, α4.as, μ4, es4, vs4, (l2.trans l3).trans l4, ⟨β ++ γ, by rw [eγ, eβ, List.append_assoc]⟩, h4, rl4, hl4, cl4⟩
    refine tg_in rx h3.le eρ sl3 fun σ2 sl4 hw => ⟨by rw [hw]; exact wipe_wipe2 σ t.slots, ?_⟩
    refine ⟨F3, _, ρ', μ2, h3, sl4, wpT.imp c cl (fun b μ3 cl F4 α4 H4 g4 h4 => ?_) fun _ _ x => x.elim⟩
    have e4 : α4 = ⟨α4.as, hset α1.hid p vs⟩ := by obtain ⟨_, e, _⟩ := g4; cases α4; cases e; rfl
    cases b with
    | false =>
      rw [if_neg Bool.false_ne_true] at cl
      refine L2.iteF ?_
      rw [e4] at h4
      exact fin g4 rfl h4 (rl.mono (l3.trans g4.1)) (by omega) cl
    | true =>
      rw [if_pos rfl] at cl
      refine L2.iteT ?_
      refine ⟨F4, α4, ρ', μ3, h4, sl4.mono g4, wpE.imp el cl (fun rv μ4 cl v F5 α5 H5 g5 h5 rv5 => ?_) fun _ _ x => x.elim⟩
      obtain ⟨⟨e, μ5⟩, ef, cl⟩ := opt.of cl
      obtain ⟨F6, g6, h6, r6⟩ := h5.freeze rv5 ef
      have e5 : α5 = ⟨α5.as, hset α1.hid p vs⟩ := by
        obtain ⟨_, q, _⟩ := g4.trans g5
        cases α5; cases q; rfl
      rw [e5] at h6
      obtain ⟨eD, _, _⟩ := h6.hd p vs hset_same
      have rl6 := rl.mono ((l3.trans g4.1).trans (g5.1.trans g6.1))
      refine ⟨vs, eD, by rw [rl.length, line_eq]; have := J1.len; omega, ?_⟩
      refine fin (es4 := es ++ [e]) (vs4 := vs ++ [v]) (α4 := α5) (g4.trans (g5.trans g6)) rfl h6.rehide (rl6.append (.cons r6 .nil)) (by simp; omega) ?_
      simpa [List.append_assoc] using cl
  · have e : i = ds.length := by omega
    subst e
    refine .inl ⟨J1.stop _ H' (l2.trans h2.le) (Nat.le_refl _), ?_⟩
    rw [List.drop_length] at cl
    have cl : Kc (es ++ []) μ2 := cl
    rw [List.append_nil] at cl
    exact fin0 g2 h2 nh rl cl
theorem lc_end {Q : VK} {F : Hp} {α : Al} {F2 : Hp} {as2 : List Addr} {hid : Addr → Option (List V)} {μ2 : Mu} {es : List D} {vs : List V} {p : Addr} {H' : Hp} (g2 : Go F F2 α ⟨as2, hid⟩) (h2 : Hold X.K F2 H' ⟨as2, hset hid p vs⟩ μ2) (nh : hid p = none) (rl : RL X.K F2 vs es) (cl : kE X.K [] F α Q (.dat (.lst es)) μ2) : Q (.ref p) H' := by
  obtain ⟨h3, l3⟩ := h2.unhide nh
  exact cl _ _ ⟨as2, hid⟩ H' (g2.trans ⟨l3, rfl, [], by simp⟩) h3 (R.lst (.inl upd_same) (rl.mono l3))
theorem lcO_end {Q : VK} {F : Hp} {α : Al} {F2 : Hp} {as2 : List Addr} {hid : Addr → Option (List V)} {μ2 : Mu} {es : List D} {vs : List V} {p : Addr} {H' : Hp} (g2 : Go F F2 α ⟨as2, hid⟩) (h2 : Hold X.K F2 H' ⟨as2, hset hid p vs⟩ μ2) (nh : hid p = none) (rl : RL X.K F2 vs es) (cl : kE X.K [] F α Q (.loc μ2.length) (μ2 ++ [.lst es])) : Q (.ref p) H' := by
  obtain ⟨e1, e2, e3⟩ := h2.hd p vs hset_same
  have h3 : Hold X.K F2 H' ⟨as2, hid⟩ μ2 := ⟨h2.le, h2.fr, h2.len, h2.nd, h2.al, fun l a o q1 q2 => ObR.al (hid := hset hid p vs) (h2.ob l a o q1 q2), fun a xs q => by
    have z : a ≠ p := by rintro rfl; have q : hid a = some xs := q; rw [nh] at q; cases q
    exact h2.hd a xs (by show hset hid p vs a = _; rw [hset_ne z]; exact q)⟩
  obtain ⟨h4, g4⟩ := h3.own (p := p) (o := .lst es) (by rw [e1]; simp) e3 nh ⟨e2, vs, e1, rl⟩
  exact cl _ _ _ _ (g2.trans g4) h4 ⟨p, by rw [← h2.len]; simp, rfl⟩
theorem d_lc {elt tg iter : Expr} {ifs : List Expr} {scope : Scope} {own : List (Str × Nat)} {pos : Pos} {el : E} {t : Tg} {it : It} {c : T} (hc : X.calm = true) (hN : X.N.Nodup) (hi : PI X tg iter (tI X.K [] W it)) (ok : BlkOk X.N X.env.scope scope own) (how : own.map (·.2) = t.slots)
    (hg : ∀ (s : Shared) (H : Hp) (C : Addr) (cl : List (Str × Addr)) (fp : List Addr), PG (X.blk s H scope (compEnvC scope cl C X.env) fp) tg (gOf X.K t)) (ht : ∀ (s : Shared) (H : Hp) (C : Addr) (cl : List (Str × Addr)) (fp : List Addr), PTs (X.blk s H scope (compEnvC scope cl C X.env) fp) ifs (tT X.K [] noX c))
    (he : ∀ (s : Shared) (H : Hp) (C : Addr) (cl : List (Str × Addr)) (fp : List Addr), PE (X.blk s H scope (compEnvC scope cl C X.env) fp) elt (tE X.K [] noX el)) (hs : ∀ x, foldedSetIterable iter X.env x = pure x) :
    PE X (.ListComp elt [⟨tg, iter, ifs, 0⟩] scope pos) (tE X.K [] W (.lc el t it c)) := by
  refine PE.imp (pe_lc hc hN hi ok hg ht he hs) ?_
  rintro σ H Q ⟨F, α, ρ, μ, hd, sl, w⟩
  exact lc_main how hd sl w lc_end
theorem d_lcO {elt tg iter : Expr} {ifs : List Expr} {scope : Scope} {own : List (Str × Nat)} {pos : Pos} {el : E} {t : Tg} {it : It} {c : T} (hc : X.calm = true) (hN : X.N.Nodup) (hi : PI X tg iter (tI X.K [] W it)) (ok : BlkOk X.N X.env.scope scope own) (how : own.map (·.2) = t.slots)
    (hg : ∀ (s : Shared) (H : Hp) (C : Addr) (cl : List (Str × Addr)) (fp : List Addr), PG (X.blk s H scope (compEnvC scope cl C X.env) fp) tg (gOf X.K t)) (ht : ∀ (s : Shared) (H : Hp) (C : Addr) (cl : List (Str × Addr)) (fp : List Addr), PTs (X.blk s H scope (compEnvC scope cl C X.env) fp) ifs (tT X.K [] noX c))
    (he : ∀ (s : Shared) (H : Hp) (C : Addr) (cl : List (Str × Addr)) (fp : List Addr), PE (X.blk s H scope (compEnvC scope cl C X.env) fp) elt (tE X.K [] noX el)) (hs : ∀ x, foldedSetIterable iter X.env x = pure x) :
    PE X (.ListComp elt [⟨tg, iter, ifs, 0⟩] scope pos) (tE X.K [] W (.lcO el t it c)) := by
  refine PE.imp (pe_lc hc hN hi ok hg ht he hs) ?_
  rintro σ H Q ⟨F, α, ρ, μ, hd, sl, w⟩
  exact lc_main how hd sl w lcO_end
def tIV (K : PySem.W.Frag) (pn : List (Addr × Obj)) (W : WX) (a : E) : TI := fun σ H R => ∃ F α ρ μ, Hold K F H α μ ∧ Slots K pn F α ρ σ ∧ wpE a ρ μ (fun rv μ' => ∃ ds, vw μ' rv = some (.lst ds) ∧ ∀ b F' α' H', Go F F' α α' → Hold K F' H' α' μ' → RvR K pn F' α' rv (.ref b) → ds.length ≤ 16777216 → R (Itl K b) H') (kX K F α σ W)
theorem di_live {tg e : Expr} {a : E} (he : PE X e (tE X.K pn W a)) : PI X tg e (tIV X.K pn W a) := by
  refine ⟨fun pins s σ H Rr I h => ?_⟩
  obtain ⟨F, α, ρ, μ, hd, sl, w⟩ := h
  refine thn (he.run pins s σ H (fun x H1 => ∃ b vs, x = .ref b ∧ Rd H1 b (.lst vs) ∧ (vs.length ≤ 16777216 → Rr (Itl X.K b) H1)) I ?_) fun v s1 ⟨x, H1, I1, r1, b, vs, e1, hs, q⟩ => ?_
  · refine one1 hd sl w fun r1 μ1 v1 F1 α1 H1 g1 h1 rv1 p => ?_
    obtain ⟨ds, e1, p⟩ := p
    obtain ⟨b, vs, rfl, h2, h3⟩ := h1.items rv1 e1
    exact ⟨b, vs, rfl, h2, fun z => p b F1 α1 H1 g1 h1 rv1 (by rw [← h3.length]; exact z)⟩
  · subst e1
    cases (show v = Value.ref b from r1)
    have hq : SqL X.K H1 b vs := .inl hs
    obtain ⟨its, rv, p, hz⟩ := I1.list hq
    refine wpAny_pyIter_list p.isList ?_
    refine ⟨s1.heap.objs.size, [s1.heap.objs.size], _, _, H1, rfl, I1.kept (t' := s1.toks) fun b o e => Heap.get?_push_of_some _ e, turn_list b _, ⟨_, Heap.get?_push_size _ rfl, rfl, rfl⟩, fun c hb => ?_, ?_⟩
    · have e : c = s1.heap.objs.size := by simpa using hb
      subst e
      exact I1.fpOk (Nat.le_refl _) (I1.hok.fresh (Nat.le_refl _))
    · exact q (by rw [← line_eq]; exact hz)
theorem compV_ck {ck : Mu → Prop} {tg : D → Rho → Option Rho} {ts : Rho → Mu → QB → Prop} {el : Rho → Mu → QV → Prop} {ρ : Rho} : ∀ {ds : List D} {μ : Mu} {Q : QD}, compV ck tg ts el ρ ds μ Q → ck μ
  | [], _, _, h => h.1
  | _ :: _, _, _, h => h.1
theorem lcV_main {own : List (Str × Nat)} {el : E} {t : Tg} {a : E} {c : T} (how : own.map (·.2) = t.slots)
    {σ : L2.St} {H : Hp} {Q : VK} {F : Hp} {α : Al} {ρ : Rho} {μ : Mu} (hd : Hold X.K F H α μ) (sl : Slots X.K [] F α ρ σ) {Kc : List D → Mu → Prop}
    (w : wpE a ρ μ (fun rv μ1 => opt (vw μ1 rv) fun d => match d with
      | .lst ds => compV (fun m => vw m rv = some (.lst ds)) (tgD t) (fun ρ' μ' Q' => wpT c ρ' μ' Q' fun _ _ => False) (fun ρ' μ' Q' => wpE el ρ' μ' Q' fun _ _ => False) (wipeR ρ t.slots) ds μ1 Kc
      | _ => False) (kX X.K F α σ W))
    (fin0 : ∀ {F2 : Hp} {as2 : List Addr} {hid : Addr → Option (List V)} {μ2 : Mu} {es : List D} {vs : List V} {p : Addr} {H' : Hp}, Go F F2 α ⟨as2, hid⟩ → Hold X.K F2 H' ⟨as2, hset hid p vs⟩ μ2 → hid p = none → RL X.K F2 vs es → Kc es μ2 → Q (.ref p) H') :
    tLc (tIV X.K [] W a) (gOf X.K t) (tT X.K [] noX c) (tE X.K [] noX el) (own.map (·.2)) σ H Q := by
  refine ⟨F, α, ρ, μ, hd, sl, wpE.imp a w (fun rv μ1 w => ?_) fun _ _ x => x⟩
  obtain ⟨d0, ev, w⟩ := opt.of w
  cases d0 <;> first | exact w.elim | skip
  rename_i ds
  refine ⟨ds, ev, fun bb F1 α1 H1 g1 h1 rb hz p np => ?_⟩
  rw [how]
  let Cl := fun (es : List D) (μ : Mu) (Q : QD) => compV (fun m => vw m rv = some (.lst ds)) (tgD t) (fun ρ' μ' Q' => wpT c ρ' μ' Q' fun _ _ => False) (fun ρ' μ' Q' => wpE el ρ' μ' Q' fun _ _ => False) (wipeR ρ t.slots) es μ Q
  let St := fun (i : Nat) (H' : Hp) => ∃ F2 as2 μ2 es vs, Le F1 F2 ∧ (∃ β, as2 = α1.as ++ β) ∧ Hold X.K F2 H' ⟨as2, hset α1.hid p vs⟩ μ2 ∧ RL X.K F2 vs es ∧ es.length ≤ i ∧ Cl (ds.drop i) μ2 (fun es' μ3 => Kc (es ++ es') μ3)
  have nh : α1.hid p = none := by
    cases q : α1.hid p with
    | none => rfl
    | some ws => have := (h1.hd p ws q).1; rw [np] at this; cases this
  refine ⟨fun i m H' => m = ds.length - i ∧ i ≤ ds.length ∧ St i H', ⟨_, rfl, Nat.zero_le _, F1, α1.as, μ1, [], [], .refl, ⟨[], by simp⟩, h1.hide np, .nil, Nat.zero_le _, w⟩, ?_⟩
  rintro i m H' ⟨rfl, hi', F2, as2, μ2, es, vs, l2, ⟨β, eβ⟩, h2, rl, hl, cl⟩
  have g2 : Go F F2 α ⟨as2, α1.hid⟩ := g1.trans ⟨l2, rfl, β, eβ⟩
  -- the list as it stands now
  have rb2 : RvR X.K [] F2 ⟨as2, hset α1.hid p vs⟩ rv (.ref bb) := by
    have z : RvR X.K [] F2 ⟨as2, α1.hid⟩ rv (.ref bb) := RvR.mono (show Go F1 F2 α1 ⟨as2, α1.hid⟩ from ⟨l2, rfl, β, eβ⟩) rb
    cases rv with
    | dat d => exact z
    | loc l => exact z
    | exc c l => exact z
    | since _ _ _ => exact z
  obtain ⟨b2, ws, eb, hrd, hrl⟩ := h2.items rb2 (compV_ck cl)
  cases eb
  by_cases hlt : i < ds.length
  · have hlw : i < ws.length := by rw [hrl.length]; exact hlt
    refine .inr ⟨⟨ws, ws[i], .inl hrd, by simp [hlw]⟩, fun H'' => i + 1 ≤ ds.length ∧ St (i + 1) H'', fun H'' n => ⟨_, by omega, rfl, n⟩, fun x H'' y => ?_⟩
    obtain ⟨rfl, y⟩ := y
    obtain ⟨d, ed, rx⟩ := hrl.get' (y ws (.inl hrd))
    have eds : ds.drop i = d :: ds.drop (i + 1) := by
      obtain ⟨q1, q2⟩ := List.getElem?_eq_some_iff.mp ed
      rw [List.drop_eq_getElem_cons q1, q2]
    rw [eds] at cl
    obtain ⟨ρ', eρ, cl⟩ := opt.of cl.2
    have sl2 : ∀ {hid' : Addr → Option (List V)}, Slots X.K [] F2 ⟨as2, hid'⟩ ρ σ := by
      intro hid'
      have z := sl.mono (g2.trans (α'' := ⟨as2, α1.hid⟩) ⟨.refl, rfl, [], by simp⟩)
      refine ⟨z.1, fun i rv e => ?_⟩
      obtain ⟨v, e1, e2⟩ := z.2 i rv e
      refine ⟨v, e1, ?_⟩
      cases rv with
      | dat d => exact e2
      | loc l => exact e2
      | exc c l => exact e2
      | since _ _ _ => exact e2
    have sl3 : Slots X.K [] F2 ⟨as2, hset α1.hid p vs⟩ (wipeR ρ t.slots) (L2.wipe σ t.slots) := Slots.wipe sl2 _
    have fin : ∀ {F4 : Hp} {α4 : Al} {H4 : Hp} {μ4 : Mu} {es4 : List D} {vs4 : List V}, Go F2 F4 ⟨as2, hset α1.hid p vs⟩ α4 → ∀ {hid4}, hid4 = hset α1.hid p vs4 → Hold X.K F4 H4 ⟨α4.as, hid4⟩ μ4 → RL X.K F4 vs4 es4 → es4.length ≤ i + 1 → Cl (ds.drop (i + 1)) μ4 (fun es' μ3 => Kc (es4 ++ es') μ3) → i + 1 ≤ ds.length ∧ St (i + 1) H4 := by
      intro F4 α4 H4 μ4 es4 vs4 g4 hid4 e4 h4 rl4 hl4 cl4
      subst e4
      obtain ⟨l4, _, γ, eγ⟩ := g4
      exact ⟨hlt, F4, α4.as, μ4, es4, vs4, l2.trans l4, ⟨β ++ γ, by rw [eγ, eβ, List.append_assoc]⟩, h4, rl4, hl4, cl4⟩
    refine tg_in rx h2.le eρ sl3 fun σ2 sl4 hw => ⟨by rw [hw]; exact wipe_wipe2 σ t.slots, ?_⟩
    refine ⟨F2, _, ρ', μ2, h2, sl4, wpT.imp c cl (fun b μ3 cl F4 α4 H4 g4 h4 => ?_) fun _ _ x => x.elim⟩
    have e4 : α4 = ⟨α4.as, hset α1.hid p vs⟩ := by obtain ⟨_, e, _⟩ := g4; cases α4; cases e; rfl
    cases b with
    | false =>
      rw [if_neg Bool.false_ne_true] at cl
      refine L2.iteF ?_
      rw [e4] at h4
      exact fin g4 rfl h4 (rl.mono g4.1) (by omega) cl
    | true =>
      rw [if_pos rfl] at cl
      refine L2.iteT ?_
      refine ⟨F4, α4, ρ', μ3, h4, sl4.mono g4, wpE.imp el cl (fun rv μ4 cl v F5 α5 H5 g5 h5 rv5 => ?_) fun _ _ x => x.elim⟩
      obtain ⟨⟨e, μ5⟩, ef, cl⟩ := opt.of cl
      obtain ⟨F6, g6, h6, r6⟩ := h5.freeze rv5 ef
      have e5 : α5 = ⟨α5.as, hset α1.hid p vs⟩ := by
        obtain ⟨_, q, _⟩ := g4.trans g5
        cases α5; cases q; rfl
      rw [e5] at h6
      obtain ⟨eD, _, _⟩ := h6.hd p vs hset_same
      have rl6 := rl.mono (g4.1.trans (g5.1.trans g6.1))
      refine ⟨vs, eD, by rw [rl.length, line_eq]; omega, ?_⟩
      refine fin (es4 := es ++ [e]) (vs4 := vs ++ [v]) (α4 := α5) (g4.trans (g5.trans g6)) rfl h6.rehide (rl6.append (.cons r6 .nil)) (by simp; omega) ?_
      simpa [List.append_assoc] using cl
  · have e : i = ds.length := by omega
    subst e
    refine .inl ⟨⟨ws, .inl hrd, by rw [hrl.length]; exact Nat.le_refl _⟩, ?_⟩
    rw [List.drop_length] at cl
    have cl : Kc (es ++ []) μ2 := cl.2
    rw [List.append_nil] at cl
    exact fin0 g2 h2 nh rl cl
theorem d_lcV {elt tg iter : Expr} {ifs : List Expr} {scope : Scope} {own : List (Str × Nat)} {pos : Pos} {el : E} {t : Tg} {a : E} {c : T} (hc : X.calm = true) (hN : X.N.Nodup) (hi : PE X iter (tE X.K [] W a)) (ok : BlkOk X.N X.env.scope scope own) (how : own.map (·.2) = t.slots)
    (hg : ∀ (s : Shared) (H : Hp) (C : Addr) (cl : List (Str × Addr)) (fp : List Addr), PG (X.blk s H scope (compEnvC scope cl C X.env) fp) tg (gOf X.K t)) (ht : ∀ (s : Shared) (H : Hp) (C : Addr) (cl : List (Str × Addr)) (fp : List Addr), PTs (X.blk s H scope (compEnvC scope cl C X.env) fp) ifs (tT X.K [] noX c))
    (he : ∀ (s : Shared) (H : Hp) (C : Addr) (cl : List (Str × Addr)) (fp : List Addr), PE (X.blk s H scope (compEnvC scope cl C X.env) fp) elt (tE X.K [] noX el)) (hs : ∀ x, foldedSetIterable iter X.env x = pure x) :
    PE X (.ListComp elt [⟨tg, iter, ifs, 0⟩] scope pos) (tE X.K [] W (.lcV el t a c)) := by
  refine PE.imp (pe_lc hc hN (di_live hi) ok hg ht he hs) ?_
  rintro σ H Q ⟨F, α, ρ, μ, hd, sl, w⟩
  exact lcV_main how hd sl w lc_end
end
end DL

namespace DL
open PySem PySem.Spec PyProof.Rows L2

inductive S where
  | skip | seq (a b : S)
  | exp (e : E) | set (i : Nat) (e : E) | unp (is : List Nat) (e : E) | par (i j : Nat) (a b : E) | par3 (i j l : Nat) (a b c : E)
  | ret (e : E) | retN | ite (c : T) (a b : S) | forr (t : Tg) (it : It) (b : S) | whl (c : T) (b : S)
  | brk | cnt | pas
  | setix (a k e : E) | setfl (a : E) (c f : Str) (e : E)
  | rse (c : Str) (fs : List Str) (as : As) | rseK (c : Str)
  | tryx (b : S) (x : Str) (tab : List (Str × Bool)) (i : Nat) (h : S)
  | bad | as2 (a1 k1 a2 k2 e1 e2 : E) | try2 (b : S) (x1 : Str) (tab1 : List (Str × Bool)) (i1 : Nat) (h1 : S) (x2 : Str) (tab2 : List (Str × Bool)) (i2 : Nat) (h2 : S)
/-- what is wanted behind a statement -/
structure Kt where
  nx : Rho → Mu → Prop
  rt : RV → Mu → Prop
  bk : Rho → Mu → Prop
  ct : Rho → Mu → Prop
  ex : Ex → Rho → Mu → Prop
structure Kt.Imp (A B : Kt) : Prop where
  nx : ∀ ρ μ, A.nx ρ μ → B.nx ρ μ
  rt : ∀ r μ, A.rt r μ → B.rt r μ
  bk : ∀ ρ μ, A.bk ρ μ → B.bk ρ μ
  ct : ∀ ρ μ, A.ct ρ μ → B.ct ρ μ
  ex : ∀ e ρ μ, A.ex e ρ μ → B.ex e ρ μ
def forL (tg : D → Rho → Option Rho) (body : Rho → Mu → Kt → Prop) (K : Kt) : List D → Rho → Mu → Prop
  | [], ρ, μ => K.nx ρ μ
  | d :: ds, ρ, μ => opt (tg d ρ) fun ρ' => body ρ' μ { K with nx := fun ρ μ => forL tg body K ds ρ μ, ct := fun ρ μ => forL tg body K ds ρ μ, bk := K.nx }
def putD (f : Str) (r : D) : List (Str × D) → List (Str × D)
  | [] => [(f, r)]
  | (g, x) :: fs => if g = f then (g, r) :: fs else (g, x) :: putD f r fs
/-- the slots without exceptions -/
def noEx (ρ : Rho) : Rho := ρ.map fun o => match o with
  | some (.exc _ _) => none
  | o => o
/-- what is wanted behind an except suite -/
def Kt.suite (K : Kt) (i : Nat) : Kt where
  nx := fun ρ μ => K.nx (noEx (ρ.set i none)) μ
  rt := fun r μ => r.ok = true ∧ K.rt r μ
  bk := fun ρ μ => K.bk (noEx (ρ.set i none)) μ
  ct := fun ρ μ => K.ct (noEx (ρ.set i none)) μ
  ex := fun _ _ _ => False
theorem Kt.Imp.suite {A B : Kt} (h : A.Imp B) (i : Nat) : (A.suite i).Imp (B.suite i) := ⟨fun _ _ x => h.nx _ _ x, fun _ _ x => ⟨x.1, h.rt _ _ x.2⟩, fun _ _ x => h.bk _ _ x, fun _ _ x => h.ct _ _ x, fun _ _ _ x => x⟩
/-- a store to a[k] -/
def putIx (r1 r2 : RV) (d : D) (μ : Mu) (Q : Mu → Prop) : Prop := match r1, r2 with
  | .loc l, .dat kd => opt (μ[l]?) fun o => match o with
    | .lst xs => (match kd with
      | .int i => opt (ixN xs.length i) fun j => Q (μ.set l (.lst (xs.set j d)))
      | _ => False)
    | .dic kvs => opt (keyOf kd) fun k => kvs.length < 16777216 ∧ Q (μ.set l (.dic (pk kvs k d)))
    | _ => False
  | _, _ => False
theorem putIx.imp {r1 r2 : RV} {d : D} {μ : Mu} {Q Q' : Mu → Prop} (h : putIx r1 r2 d μ Q) (f : ∀ m, Q m → Q' m) : putIx r1 r2 d μ Q' := by
  unfold putIx at h ⊢
  revert h; split
  · refine fun h => opt.imp h fun o h => ?_
    revert h; split
    · split
      · exact fun h => opt.imp h fun _ h => f _ h
      · exact fun h => h
    · exact fun h => opt.imp h fun _ h => ⟨h.1, f _ h.2⟩
    · exact fun h => h
  · exact fun h => h
def wpS : S → Rho → Mu → Kt → Prop
  | .skip, ρ, μ, K => K.nx ρ μ
  | .pas, ρ, μ, K => K.nx ρ μ
  | .seq a b, ρ, μ, K => wpS a ρ μ { K with nx := fun ρ μ => wpS b ρ μ K }
  | .exp e, ρ, μ, K => wpE e ρ μ (fun _ μ1 => K.nx ρ μ1) (fun x m => K.ex x ρ m)
  | .set i e, ρ, μ, K => wpE e ρ μ (fun rv μ1 => K.nx (ρ.set i (some rv)) μ1) (fun x m => K.ex x ρ m)
  | .unp is e, ρ, μ, K => wpE e ρ μ (fun rv μ1 => opt (fz μ1 rv) fun p => match p.1 with
      | .tup ds => opt (setAll is ds ρ) fun ρ' => K.nx ρ' p.2
      | .lst ds => opt (setAll is ds ρ) fun ρ' => K.nx ρ' p.2
      | _ => False) (fun x m => K.ex x ρ m)
  | .par3 i j l a b c, ρ, μ, K => wpE a ρ μ (fun r1 μ1 => wpE b ρ μ1 (fun r2 μ2 => wpE c ρ μ2 (fun r3 μ3 => K.nx (((ρ.set i (some r1)).set j (some r2)).set l (some r3)) μ3) (fun x m => K.ex x ρ m)) (fun x m => K.ex x ρ m)) (fun x m => K.ex x ρ m)
  | .par i j a b, ρ, μ, K => wpE a ρ μ (fun r1 μ1 => wpE b ρ μ1 (fun r2 μ2 => K.nx ((ρ.set i (some r1)).set j (some r2)) μ2) (fun x m => K.ex x ρ m)) (fun x m => K.ex x ρ m)
  | .ret e, ρ, μ, K => wpE e ρ μ K.rt (fun x m => K.ex x ρ m)
  | .retN, _, μ, K => K.rt (.dat .non) μ
  | .ite c a b, ρ, μ, K => wpT c ρ μ (fun z μ1 => if z = true then wpS a ρ μ1 K else wpS b ρ μ1 K) (fun x m => K.ex x ρ m)
  | .forr t it b, ρ, μ, K => wpI it ρ μ (fun ds μ1 => forL (tgD t) (fun ρ μ K => wpS b ρ μ K) K ds ρ μ1) (fun x m => K.ex x ρ m)
  | .whl c b, ρ, μ, K => ∃ J : Nat → Rho → Mu → Prop, (∃ m, J m ρ μ) ∧ ∀ m ρ μ, J m ρ μ → wpT c ρ μ (fun z μ1 => if z = true then wpS b ρ μ1 { K with nx := fun ρ' μ' => ∃ m', m' < m ∧ J m' ρ' μ', ct := fun ρ' μ' => ∃ m', m' < m ∧ J m' ρ' μ', bk := K.nx } else K.nx ρ μ1) (fun x m => K.ex x ρ m)
  | .brk, ρ, μ, K => K.bk ρ μ
  | .cnt, ρ, μ, K => K.ct ρ μ
  | .setix a k e, ρ, μ, K => wpE e ρ μ (fun r0 μ0 => opt (fz μ0 r0) fun p => wpE a ρ p.2 (fun r1 μ1 => wpE k ρ μ1 (fun r2 μ2 => putIx r1 r2 p.1 μ2 fun μ3 => K.nx ρ μ3) (fun x m => K.ex x ρ m)) (fun x m => K.ex x ρ m)) (fun x m => K.ex x ρ m)
  | .as2 a1 k1 a2 k2 e1 e2, ρ, μ, K => wpA (.cons e1 (.cons e2 .nil)) ρ μ (fun rs μ0 => opt (datsOf rs) fun ds => match ds with
      | [d1, d2] => wpE a1 ρ μ0 (fun r1 μ1 => wpE k1 ρ μ1 (fun r2 μ2 => putIx r1 r2 d1 μ2 fun μ3 => wpE a2 ρ μ3 (fun r3 μ4 => wpE k2 ρ μ4 (fun r4 μ5 => putIx r3 r4 d2 μ5 fun μ6 => K.nx ρ μ6) fun x m => K.ex x ρ m) fun x m => K.ex x ρ m) fun x m => K.ex x ρ m) fun x m => K.ex x ρ m
      | _ => False) (fun x m => K.ex x ρ m)
  | .bad, _, _, _ => False
  | .try2 b _ tab1 i1 h1 _ tab2 i2 h2, ρ, μ, K => wpS b ρ μ { K with ex := fun e ρ' μ' => opt (tab1.lookup e.c) fun z => if z = true then wpS h1 (ρ'.set i1 (some (.exc e.c e.fs))) μ' (K.suite i1) else opt (tab2.lookup e.c) fun z => if z = true then wpS h2 (ρ'.set i2 (some (.exc e.c e.fs))) μ' (K.suite i2) else K.ex e ρ' μ' }
  | .setfl a c f e, ρ, μ, K => wpE e ρ μ (fun r0 μ0 => opt (fz μ0 r0) fun p => wpE a ρ p.2 (fun r1 μ1 => match r1 with
      | .loc l => opt (μ1[l]?) fun o => match o with
        | .ins c' fs => c' = c ∧ fs.length < 1000 ∧ K.nx ρ (μ1.set l (.ins c (putD f p.1 fs)))
        | _ => False
      | _ => False) (fun x m => K.ex x ρ m)) (fun x m => K.ex x ρ m)
  | .rse c fs as, ρ, μ, K => wpA as ρ μ (fun rs μ1 => opt (datsOf rs) fun ds => ds.length = fs.length ∧ K.ex ⟨c, fs.zip ds⟩ ρ μ1) (fun x m => K.ex x ρ m)
  | .rseK c, ρ, μ, K => K.ex ⟨c, []⟩ ρ μ
  | .tryx b _ tab i h, ρ, μ, K => wpS b ρ μ { K with ex := fun e ρ' μ' => opt (tab.lookup e.c) fun z => if z = true then wpS h (ρ'.set i (some (.exc e.c e.fs))) μ' (K.suite i) else K.ex e ρ' μ' }

theorem forL.imp {tg : D → Rho → Option Rho} {body : Rho → Mu → Kt → Prop} (hb : ∀ ρ μ (A B : Kt), body ρ μ A → A.Imp B → body ρ μ B) {A B : Kt} (i : A.Imp B) : ∀ (ds : List D) (ρ : Rho) (μ : Mu), forL tg body A ds ρ μ → forL tg body B ds ρ μ
  | [], ρ, μ, h => i.nx _ _ h
  | d :: ds, ρ, μ, h => opt.imp h fun ρ' h => hb _ _ _ _ h ⟨fun _ _ h => forL.imp hb i ds _ _ h, i.rt, i.nx, fun _ _ h => forL.imp hb i ds _ _ h, i.ex⟩
theorem wpS.imp : ∀ (a : S) {ρ : Rho} {μ : Mu} {A B : Kt}, wpS a ρ μ A → A.Imp B → wpS a ρ μ B
  | .skip, _, _, _, _, h, i => i.nx _ _ h
  | .pas, _, _, _, _, h, i => i.nx _ _ h
  | .seq a b, _, _, _, _, h, i => wpS.imp a h ⟨fun _ _ h => wpS.imp b h i, i.rt, i.bk, i.ct, i.ex⟩
  | .exp e, _, _, _, _, h, i => wpE.imp e h (fun _ _ h => i.nx _ _ h) fun _ _ h => i.ex _ _ _ h
  | .set j e, _, _, _, _, h, i => wpE.imp e h (fun _ _ h => i.nx _ _ h) fun _ _ h => i.ex _ _ _ h
  | .unp is e, _, _, _, _, h, i => wpE.imp e h (fun _ _ h => opt.imp h fun p h => by
      revert h; split
      · exact fun h => opt.imp h fun _ h => i.nx _ _ h
      · exact fun h => opt.imp h fun _ h => i.nx _ _ h
      · exact fun h => h) fun _ _ h => i.ex _ _ _ h
  | .par3 _ _ _ a b c, _, _, _, _, h, i => wpE.imp a h (fun _ _ h => wpE.imp b h (fun _ _ h => wpE.imp c h (fun _ _ h => i.nx _ _ h) fun _ _ h => i.ex _ _ _ h) fun _ _ h => i.ex _ _ _ h) fun _ _ h => i.ex _ _ _ h
  | .par _ _ a b, _, _, _, _, h, i => wpE.imp a h (fun _ _ h => wpE.imp b h (fun _ _ h => i.nx _ _ h) fun _ _ h => i.ex _ _ _ h) fun _ _ h => i.ex _ _ _ h
  | .ret e, _, _, _, _, h, i => wpE.imp e h i.rt fun _ _ h => i.ex _ _ _ h
  | .retN, _, _, _, _, h, i => i.rt _ _ h
  | .ite c a b, _, _, _, _, h, i => wpT.imp c h (fun _ _ h => iteImp h (fun h => wpS.imp a h i) fun h => wpS.imp b h i) fun _ _ h => i.ex _ _ _ h
  | .forr t it b, _, _, _, _, h, i => wpI.imp it h (fun ds _ h => forL.imp (body := fun ρ μ K => wpS b ρ μ K) (fun _ _ _ _ h i => wpS.imp b h i) i ds _ _ h) fun _ _ h => i.ex _ _ _ h
  | .whl c b, _, _, _, _, h, i => by
      obtain ⟨J, h0, hs⟩ := h
      exact ⟨J, h0, fun m ρ μ h => wpT.imp c (hs m ρ μ h) (fun _ _ h => iteImp h (fun h => wpS.imp b h ⟨fun _ _ h => h, i.rt, i.nx, fun _ _ h => h, i.ex⟩) fun h => i.nx _ _ h) fun _ _ h => i.ex _ _ _ h⟩
  | .brk, _, _, _, _, h, i => i.bk _ _ h
  | .cnt, _, _, _, _, h, i => i.ct _ _ h
  | .setix a k e, _, _, _, _, h, i => wpE.imp e h (fun _ _ h => opt.imp h fun p h => wpE.imp a h (fun _ _ h => wpE.imp k h (fun _ _ h => h.imp fun _ h => i.nx _ _ h) fun _ _ h => i.ex _ _ _ h) fun _ _ h => i.ex _ _ _ h) fun _ _ h => i.ex _ _ _ h
  | .as2 a1 k1 a2 k2 e1 e2, _, _, _, _, h, i => wpA.imp (.cons e1 (.cons e2 .nil)) h (fun _ _ h => opt.imp h fun ds h => by
      revert h; split
      · exact fun h => wpE.imp a1 h (fun _ _ h => wpE.imp k1 h (fun _ _ h => h.imp fun _ h => wpE.imp a2 h (fun _ _ h => wpE.imp k2 h (fun _ _ h => h.imp fun _ h => i.nx _ _ h) fun _ _ h => i.ex _ _ _ h) fun _ _ h => i.ex _ _ _ h) fun _ _ h => i.ex _ _ _ h) fun _ _ h => i.ex _ _ _ h
      · exact fun h => h) fun _ _ h => i.ex _ _ _ h
  | .bad, _, _, _, _, h, _ => h
  | .try2 b _ tab1 j1 h1 _ tab2 j2 h2, _, _, _, _, w, i => wpS.imp b w ⟨i.nx, i.rt, i.bk, i.ct, fun e ρ μ w => opt.imp w fun z w => iteImp w (fun w => wpS.imp h1 w (i.suite j1)) fun w => opt.imp w fun z w => iteImp w (fun w => wpS.imp h2 w (i.suite j2)) fun w => i.ex _ _ _ w⟩
  | .setfl a c f e, _, _, _, _, h, i => wpE.imp e h (fun _ _ h => opt.imp h fun p h => wpE.imp a h (fun _ _ h => by
      revert h; split
      · refine fun h => opt.imp h fun o h => ?_
        revert h; split
        · exact fun h => ⟨h.1, h.2.1, i.nx _ _ h.2.2⟩
        · exact fun h => h
      · exact fun h => h) fun _ _ h => i.ex _ _ _ h) fun _ _ h => i.ex _ _ _ h
  | .rse c fs as, _, _, _, _, h, i => wpA.imp as h (fun _ _ h => opt.imp h fun _ h => ⟨h.1, i.ex _ _ _ h.2⟩) fun _ _ h => i.ex _ _ _ h
  | .rseK c, _, _, _, _, h, i => i.ex _ _ _ h
  | .tryx b _ tab j h, _, _, _, _, w, i => wpS.imp b w ⟨i.nx, i.rt, i.bk, i.ct, fun e ρ μ w => opt.imp w fun z w => iteImp w (fun w => wpS.imp h w (i.suite j)) fun w => i.ex _ _ _ w⟩

def kS (K : PySem.W.Frag) (pn : List (Addr × Obj)) (F : Hp) (α : Al) (W : WX) (D : Ends) : Kt where
  nx := fun ρ' μ' => ∀ F' α' H' σ', Go F F' α α' → Hold K F' H' α' μ' → Slots K pn F' α' ρ' σ' → D.nx σ' H'
  rt := fun rv μ' => ∀ v F' α' H', Go F F' α α' → Hold K F' H' α' μ' → RvR K pn F' α' rv v → D.rt v H'
  bk := fun ρ' μ' => ∀ F' α' H' σ', Go F F' α α' → Hold K F' H' α' μ' → Slots K pn F' α' ρ' σ' → D.bk σ' H'
  ct := fun ρ' μ' => ∀ F' α' H' σ', Go F F' α α' → Hold K F' H' α' μ' → Slots K pn F' α' ρ' σ' → D.ct σ' H'
  ex := fun e ρ' μ' => ∀ cls d F' α' H' σ', Go F F' α α' → Hold K F' H' α' μ' → Slots K pn F' α' ρ' σ' → ExR K F' e cls d → W cls d σ' H'
def tS (K : PySem.W.Frag) (pn : List (Addr × Obj)) (W : WX) (a : S) : TS := fun D σ H => ∃ F α ρ μ, Hold K F H α μ ∧ Slots K pn F α ρ σ ∧ wpS a ρ μ (kS K pn F α W D)
section
variable {X : Cx} {W : WX} {pn : List (Addr × Obj)} {K : PySem.W.Frag} {F F' H : Hp} {α α' : Al} {ρ : Rho} {μ : Mu} {σ : L2.St} {D : Ends}
theorem kS.go (g : Go F F' α α') : (kS K pn F α W D).Imp (kS K pn F' α' W D) :=
  ⟨fun _ _ h G β H' σ' g' => h G β H' σ' (g.trans g'), fun _ _ h v G β H' g' => h v G β H' (g.trans g'), fun _ _ h G β H' σ' g' => h G β H' σ' (g.trans g'), fun _ _ h G β H' σ' g' => h G β H' σ' (g.trans g'), fun _ _ _ h c d G β H' σ' g' => h c d G β H' σ' (g.trans g')⟩
theorem toS (g : Go F F' α α') (hd : Hold K F' H α' μ) (sl : Slots K pn F' α' ρ σ) {a : S} (h : wpS a ρ μ (kS K pn F α W D)) : tS K pn W a D σ H := ⟨F', α', ρ, μ, hd, sl, wpS.imp a h (kS.go g)⟩
/-- an exception out of an expression -/
theorem exE (sl : Slots K pn F α ρ σ) {e : Ex} (h : (kS K pn F α W D).ex e ρ μ) : kX K F α σ W e μ := fun c d F' α' H' g h' r => h c d F' α' H' σ g h' (sl.mono g) r
theorem one1s (hd : Hold K F H α μ) (sl : Slots K pn F α ρ σ) {a : E} {P : RV → Mu → Prop} {Rs : V → Hp → Prop} (h : wpE a ρ μ P (fun x m => (kS K pn F α W D).ex x ρ m))
    (f : ∀ r μ1 v F1 α1 H1, Go F F1 α α1 → Hold K F1 H1 α1 μ1 → RvR K pn F1 α1 r v → P r μ1 → Rs v H1) : tE K pn W a σ H Rs :=
  one1 hd sl (wpE.imp a h (fun _ _ h => h) fun _ _ h => exE sl h) f
theorem s_skip : PSs X [] (tS X.K pn W .skip) := PSs.imp pss_nil fun D σ H ⟨F, α, ρ, μ, hd, sl, w⟩ => w F α H σ .refl hd sl
theorem s_pass {pos : Pos} : PS X (.Pass pos) (tS X.K pn W .pas) := PS.imp ps_pass fun D σ H ⟨F, α, ρ, μ, hd, sl, w⟩ => w F α H σ .refl hd sl
theorem s_brk {pos : Pos} : PS X (.Break pos) (tS X.K pn W .brk) := PS.imp ps_break fun D σ H ⟨F, α, ρ, μ, hd, sl, w⟩ => w F α H σ .refl hd sl
theorem s_cnt {pos : Pos} : PS X (.Continue pos) (tS X.K pn W .cnt) := PS.imp ps_continue fun D σ H ⟨F, α, ρ, μ, hd, sl, w⟩ => w F α H σ .refl hd sl
theorem s_cons {st : Stmt} {rest : List Stmt} {a b : S} (h1 : PS X st (tS X.K pn W a)) (h2 : PSs X rest (tS X.K pn W b)) : PSs X (st :: rest) (tS X.K pn W (.seq a b)) := by
  refine PSs.imp (pss_cons h1 h2) ?_
  rintro D σ H ⟨F, α, ρ, μ, hd, sl, w⟩
  refine ⟨F, α, ρ, μ, hd, sl, wpS.imp a w ⟨fun ρ' μ' h F' α' H' σ' g hd' sl' => ?_, fun _ _ h => h, fun _ _ h => h, fun _ _ h => h, fun _ _ _ h => h⟩⟩
  exact toS g hd' sl' h
theorem s_exp {e : Expr} {pos : Pos} {a : E} (he : PE X e (tE X.K pn W a)) (hs : swapsWith e none pos.line X.env = pure false) : PS X (.Expr e pos) (tS X.K pn W (.exp a)) := by
  refine PS.imp (ps_expr he hs) ?_
  rintro D σ H ⟨F, α, ρ, μ, hd, sl, w⟩
  exact one1s hd sl w fun r1 μ1 v1 F1 α1 H1 g1 h1 rv1 p => p F1 α1 H1 σ g1 h1 (sl.mono g1)
theorem s_ret {e : Expr} {pos : Pos} {a : E} (he : PE X e (tE X.K pn W a)) : PS X (.Return (some e) pos) (tS X.K pn W (.ret a)) := by
  refine PS.imp (ps_ret he) ?_
  rintro D σ H ⟨F, α, ρ, μ, hd, sl, w⟩
  exact one1s hd sl w fun r1 μ1 v1 F1 α1 H1 g1 h1 rv1 p => p v1 F1 α1 H1 g1 h1 rv1
theorem s_retN {pos : Pos} : PS X (.Return none pos) (tS X.K pn W .retN) := PS.imp ps_retN fun D σ H ⟨F, α, ρ, μ, hd, sl, w⟩ => w _ F α H .refl hd R.non
theorem s_set {i : Nat} {x : Str} {e : Expr} {pos pos' : Pos} {a : E} (hN : X.N.Nodup) (hi : X.N[i]? = some x) (hx : Loc X.env.scope x) (he : PE X e (tE X.K pn W a)) (hs : swapsWith e (some (.Name x pos')) pos.line X.env = pure false) (hf : X.fn x = true ∨ X.env.scope.names.lookup x = some .local) :
    PS X (.Assign [.Name x pos'] e pos) (tS X.K pn W (.set i a)) := by
  refine PS.imp (ps_set hN hi hx he hs hf) ?_
  rintro D σ H ⟨F, α, ρ, μ, hd, sl, w⟩
  exact one1s hd sl w fun r1 μ1 v1 F1 α1 H1 g1 h1 rv1 p => p F1 α1 H1 _ g1 h1 ((sl.mono g1).set rv1)
theorem s_ite {c : Expr} {a b : List Stmt} {pos : Pos} {t : T} {sa sb : S} (hc : PT X c (tT X.K pn W t)) (ha : PSs X a (tS X.K pn W sa)) (hb : PSs X b (tS X.K pn W sb)) : PS X (.If c a b pos) (tS X.K pn W (.ite t sa sb)) := by
  refine PS.imp (ps_if hc ha hb) ?_
  rintro D σ H ⟨F, α, ρ, μ, hd, sl, w⟩
  refine ⟨F, α, ρ, μ, hd, sl, wpT.imp t w (fun z μ1 p F1 α1 H1 g1 h1 => ?_) fun _ _ x => exE sl x⟩
  cases z with
  | true => rw [if_pos rfl] at p; exact L2.iteT (toS g1 h1 (sl.mono g1) p)
  | false => rw [if_neg Bool.false_ne_true] at p; exact L2.iteF (toS g1 h1 (sl.mono g1) p)
theorem s_for {tg iter : Expr} {body : List Stmt} {pos : Pos} {t : Tg} {it : It} {b : S} (hp : PassesOwn (model X.prog X.w) X.A X.env X.xe) (hc : X.calm = true) (hi : PI X tg iter (tI X.K pn W it)) (hg : PG X tg (gOf X.K t)) (hb : PSs X body (tS X.K pn W b))
    (hs : ∀ x, foldedSetIterable iter X.env x = pure x) : PS X (.For tg iter body [] pos) (tS X.K pn W (.forr t it b)) := by
  refine PS.imp (ps_for hp hc hi hg hb hs) ?_
  rintro D σ H ⟨F, α, ρ, μ, hd, sl, w⟩
  refine ⟨F, α, ρ, μ, hd, sl, wpI.imp it w (fun ds μ1 w J F1 α1 H1 g1 h1 J1 => ?_) fun _ _ x => exE sl x⟩
  refine ⟨fun i m σ' H' => m = ds.length - i ∧ i ≤ ds.length ∧ ∃ F2 α2 ρ2 μ2, Go F1 F2 α1 α2 ∧ Hold X.K F2 H' α2 μ2 ∧ Slots X.K pn F2 α2 ρ2 σ' ∧ forL (tgD t) (fun ρ μ K => wpS b ρ μ K) (kS X.K pn F α W D) (ds.drop i) ρ2 μ2,
    ⟨_, rfl, Nat.zero_le _, F1, α1, ρ, μ1, .refl, h1, sl.mono g1, w⟩, ?_⟩
  rintro i m σ' H' ⟨rfl, hi', F2, α2, ρ2, μ2, g2, h2, sl2, fl⟩
  by_cases hlt : i < ds.length
  · refine .inr ⟨J1.go i H' (g2.1.trans h2.le) hlt, fun σ'' H'' => i + 1 ≤ ds.length ∧ ∃ F2 α2 ρ2 μ2, Go F1 F2 α1 α2 ∧ Hold X.K F2 H'' α2 μ2 ∧ Slots X.K pn F2 α2 ρ2 σ'' ∧ forL (tgD t) (fun ρ μ K => wpS b ρ μ K) (kS X.K pn F α W D) (ds.drop (i + 1)) ρ2 μ2, fun σ'' H'' n => ⟨_, by omega, rfl, n⟩, fun x H'' y => ?_⟩
    obtain ⟨d, ed, yy⟩ := J1.yld i H' x H'' (g2.1.trans h2.le) y hlt
    have eds : ds.drop i = d :: ds.drop (i + 1) := by
      obtain ⟨q1, q2⟩ := List.getElem?_eq_some_iff.mp ed
      rw [List.drop_eq_getElem_cons q1, q2]
    rw [eds] at fl
    obtain ⟨ρ3, eρ, fl⟩ := opt.of fl
    obtain ⟨F3, h3, g3, rx⟩ : ∃ F3, Hold X.K F3 H'' α2 μ2 ∧ Go F2 F3 α2 α2 ∧ R X.K F3 x d := by
      rcases yy with ⟨rfl, rx⟩ | ⟨T, ys, es', nT, rfl, rfl, rfl, rls⟩
      · exact ⟨F2, h2, .refl, rx.mono g2.1⟩
      · obtain ⟨h3, g3⟩ := h2.new (u := .tup ys) nT fun _ _ z => nomatch z
        exact ⟨_, h3, g3, .tup (SqT.of upd_same) ((rls.mono g2.1).mono g3.1)⟩
    refine tg_in rx h3.le eρ (sl2.mono g3) fun σ3 sl3 _ => ?_
    have g13 : Go F1 F3 α1 α2 := g2.trans g3
    have again : ∀ ρ' μ', forL (tgD t) (fun ρ μ K => wpS b ρ μ K) (kS X.K pn F α W D) (ds.drop (i + 1)) ρ' μ' → ∀ F' α' H' σ', Go F3 F' α2 α' → Hold X.K F' H' α' μ' → Slots X.K pn F' α' ρ' σ' →
        i + 1 ≤ ds.length ∧ ∃ F2 α2 ρ2 μ2, Go F1 F2 α1 α2 ∧ Hold X.K F2 H' α2 μ2 ∧ Slots X.K pn F2 α2 ρ2 σ' ∧ forL (tgD t) (fun ρ μ K => wpS b ρ μ K) (kS X.K pn F α W D) (ds.drop (i + 1)) ρ2 μ2 :=
      fun ρ' μ' fl F' α' H' σ' g h sl => ⟨hlt, F', α', ρ', μ', g13.trans g, h, sl, fl⟩
    have gg : Go F F3 α α2 := g1.trans g13
    exact ⟨F3, α2, ρ3, μ2, h3, sl3, wpS.imp b fl ⟨again, fun _ _ h => (kS.go (W := W) gg).rt _ _ h, fun _ _ h => (kS.go (W := W) gg).nx _ _ h, again, fun _ _ _ h => (kS.go (D := D) gg).ex _ _ _ h⟩⟩
  · have e : i = ds.length := by omega
    subst e
    rw [List.drop_length] at fl
    exact .inl ⟨J1.stop _ H' (g2.1.trans h2.le) (Nat.le_refl _), fl F2 α2 H' σ' (g1.trans g2) h2 sl2⟩
theorem s_whl {c : Expr} {body : List Stmt} {pos : Pos} {t : T} {b : S} (hp : PassesOwn (model X.prog X.w) X.A X.env X.xe) (hc : PT X c (tT X.K pn W t)) (hb : PSs X body (tS X.K pn W b)) : PS X (.While c body [] pos) (tS X.K pn W (.whl t b)) := by
  refine PS.imp (ps_while hp hc hb) ?_
  rintro D σ H ⟨F, α, ρ, μ, hd, sl, J, ⟨m0, j0⟩, step⟩
  refine ⟨fun m σ' H' => ∃ F2 α2 ρ2 μ2, Go F F2 α α2 ∧ Hold X.K F2 H' α2 μ2 ∧ Slots X.K pn F2 α2 ρ2 σ' ∧ J m ρ2 μ2, ⟨m0, F, α, ρ, μ, .refl, hd, sl, j0⟩, ?_⟩
  rintro m σ' H' ⟨F2, α2, ρ2, μ2, g2, h2, sl2, j2⟩
  refine ⟨F2, α2, ρ2, μ2, h2, sl2, wpT.imp t (step m ρ2 μ2 j2) (fun z μ3 p F3 α3 H3 g3 h3 => ?_) fun _ _ x => exE sl2 ((kS.go g2).ex _ _ _ x)⟩
  cases z with
  | false =>
    rw [if_neg Bool.false_ne_true] at p
    exact p F3 α3 H3 σ' (g2.trans g3) h3 (sl2.mono g3)
  | true =>
    rw [if_pos rfl] at p
    have gg : Go F F3 α α3 := g2.trans g3
    refine ⟨fun σ'' H'' => ∃ m', m' < m ∧ ∃ F2 α2 ρ2 μ2, Go F F2 α α2 ∧ Hold X.K F2 H'' α2 μ2 ∧ Slots X.K pn F2 α2 ρ2 σ'' ∧ J m' ρ2 μ2, fun σ'' H'' n => n, ?_⟩
    have again : ∀ ρ' μ', (∃ m', m' < m ∧ J m' ρ' μ') → ∀ F' α' H' σ', Go F3 F' α3 α' → Hold X.K F' H' α' μ' → Slots X.K pn F' α' ρ' σ' → ∃ m', m' < m ∧ ∃ F2 α2 ρ2 μ2, Go F F2 α α2 ∧ Hold X.K F2 H' α2 μ2 ∧ Slots X.K pn F2 α2 ρ2 σ' ∧ J m' ρ2 μ2 :=
      fun ρ' μ' ⟨m', hm, j⟩ F' α' H' σ' g h sl => ⟨m', hm, F', α', ρ', μ', gg.trans g, h, sl, j⟩
    exact ⟨F3, α3, ρ2, μ3, h3, sl2.mono g3, wpS.imp b p ⟨again, fun _ _ h => (kS.go (W := W) gg).rt _ _ h, fun _ _ h => (kS.go (W := W) gg).nx _ _ h, again, fun _ _ _ h => (kS.go (D := D) gg).ex _ _ _ h⟩⟩
end
end DL

namespace DL
open PySem PySem.Spec PyProof.Rows L2

section
variable {X : Cx} {W : WX} {pn : List (Addr × Obj)}
def gOf2 (K : PySem.W.Frag) (is : List Nat) : TG := fun v σ H Q => gTup K is.length (gNames is) v σ H Q ∨ gUnl K is.length (gNames is) v σ H Q
theorem PG.or {e : Expr} {g g' : TG} (h : PG X e g) (h' : PG X e g') : PG X e (fun v σ H Q => g v σ H Q ∨ g' v σ H Q) :=
  ⟨fun pins s σ H v u Q I r q => q.elim (fun q => h.run pins s σ H v u Q I r q) fun q => h'.run pins s σ H v u Q I r q⟩
theorem s_unp {tg e : Expr} {pos : Pos} {a : E} {is : List Nat} (he : PE X e (tE X.K pn W a)) (hg : PG X tg (gOf2 X.K is)) (hs : swapsWithSole [tg] e pos.line X.env = pure false) (hw : swappedStores [tg] e X.env = pure none)
    (h1 : (assignEach [tg] X.env).map (·.2) = [assign tg X.env]) : PS X (.Assign [tg] e pos) (tS X.K pn W (.unp is a)) := by
  refine PS.imp (ps_asg he hg hs hw h1) ?_
  rintro D σ H ⟨F, α, ρ, μ, hd, sl, w⟩
  refine one1s hd sl w fun r1 μ1 v1 F1 α1 H1 g1 h1 rv1 p => ?_
  obtain ⟨⟨d, μ2⟩, e1, p⟩ := opt.of p
  obtain ⟨F2, g2, h2, r2⟩ := h1.freeze rv1 e1
  cases d with
  | tup ds =>
    obtain ⟨ρ', eρ, p⟩ := opt.of p
    exact .inl (tg_in (t := .tp is) r2 h2.le eρ (sl.mono (g1.trans g2)) fun σ' sl' _ => p F2 α1 H1 σ' (g1.trans g2) h2 sl')
  | lst ds =>
    obtain ⟨ρ', eρ, p⟩ := opt.of p
    cases r2 with
    | lst hs rl =>
      exact .inr ⟨_, _, rfl, .inl (h2.le.rd _ _ rfl hs), by rw [rl.length]; exact setAll_len eρ, names_in rl eρ (sl.mono (g1.trans g2)) fun σ' sl' hw => p F2 α1 H1 σ' (g1.trans g2) h2 sl'⟩
  | _ => exact p.elim
theorem s_par {i j : Nat} {x y : Str} {ea eb : Expr} {a b : E} {px py pt pos : Pos} {kt k2 : Nat} {pt2 : Pos} (hc : X.calm = true) (hN : X.N.Nodup) (hi : X.N[i]? = some x) (hj : X.N[j]? = some y) (hij : i ≠ j)
    (hx : X.env.scope.names.lookup x = some .local) (hy : X.env.scope.names.lookup y = some .local) (ha : PE X ea (tE X.K pn W a)) (hb : PE X eb (tE X.K pn W b)) (hsa : ∀ x p, ea ≠ .Starred x p) (hsb : ∀ x p, eb ≠ .Starred x p)
    (hw : swappedStores [.Tuple [.Name x px, .Name y py] kt pt] (.Tuple [ea, eb] k2 pt2) X.env = pure (some [x, y])) :
    PS X (.Assign [.Tuple [.Name x px, .Name y py] kt pt] (.Tuple [ea, eb] k2 pt2) pos) (tS X.K pn W (.par i j a b)) := by
  refine PS.imp (ps_par hc hN hi hj hij hx hy (pa_cons ha (pa_cons hb pa_nil (notStar hsb [] X.env)) (notStar hsa [eb] X.env)) hw rfl) ?_
  rintro D σ H ⟨F, α, ρ, μ, hd, sl, w⟩
  refine two2 hd sl (wpE.imp a w (fun _ _ w => wpE.imp b w (fun _ _ w => w) fun _ _ x => exE sl x) fun _ _ x => exE sl x) fun r1 r2 μ2 v1 v2 F2 α2 H2 g2 h2 rv1 rv2 p => ?_
  exact ⟨v1, v2, rfl, p F2 α2 H2 _ g2 h2 (((sl.mono g2).set rv1).set rv2)⟩
theorem s_par3 {i j l : Nat} {x y z : Str} {ea eb ec : Expr} {a b c : E} {px py pz pt pos : Pos} {kt k2 : Nat} {pt2 : Pos} (hc : X.calm = true) (hN : X.N.Nodup) (hi : X.N[i]? = some x) (hj : X.N[j]? = some y) (hl : X.N[l]? = some z) (hij : i ≠ j) (hil : i ≠ l) (hjl : j ≠ l)
    (hx : X.env.scope.names.lookup x = some .local) (hy : X.env.scope.names.lookup y = some .local) (hz : X.env.scope.names.lookup z = some .local) (ha : PE X ea (tE X.K pn W a)) (hb : PE X eb (tE X.K pn W b)) (hcc : PE X ec (tE X.K pn W c)) (hsa : ∀ x p, ea ≠ .Starred x p) (hsb : ∀ x p, eb ≠ .Starred x p) (hsc : ∀ x p, ec ≠ .Starred x p)
    (hw : swappedStores [.Tuple [.Name x px, .Name y py, .Name z pz] kt pt] (.Tuple [ea, eb, ec] k2 pt2) X.env = pure (some [x, y, z])) :
    PS X (.Assign [.Tuple [.Name x px, .Name y py, .Name z pz] kt pt] (.Tuple [ea, eb, ec] k2 pt2) pos) (tS X.K pn W (.par3 i j l a b c)) := by
  refine PS.imp (ps_par3 hc hN hi hj hl hij hil hjl hx hy hz (pa_cons ha (pa_cons hb (pa_cons hcc pa_nil (notStar hsc [] X.env)) (notStar hsb [ec] X.env)) (notStar hsa [eb, ec] X.env)) hw rfl) ?_
  rintro D σ H ⟨F, α, ρ, μ, hd, sl, w⟩
  refine two2 hd sl (wpE.imp a w (fun _ _ w => wpE.imp b w (fun _ _ w => w) fun _ _ x => exE sl x) fun _ _ x => exE sl x) fun r1 r2 μ2 v1 v2 F2 α2 H2 g2 h2 rv1 rv2 p => ?_
  refine ⟨F2, α2, ρ, μ2, h2, sl.mono g2, wpE.imp c p (fun r3 μ3 p v3 F3 α3 H3 g3 h3 rv3 => ?_) fun _ _ x => (exE sl x).go g2⟩
  exact ⟨v1, v2, v3, rfl, p F3 α3 H3 _ (g2.trans g3) h3 ((((sl.mono (g2.trans g3)).set (rv1.mono g3)).set (rv2.mono g3)).set rv3)⟩
/-- a[k] = v of a list or a dict -/
def rSetA : TSet := fun o i v H Q => rSetL o i v H Q ∨ rSetD o i v H Q
theorem set_any (hu : X.A.units + 64 < cLine) : PSet X rSetA := fun pins s σ H o i v ov iv u Q I ro ri rv h => h.elim (fun h => set_list pins s σ H o i v ov iv u Q I ro ri rv h) fun h => set_dict (by omega) pins s σ H o i v ov iv u Q I ro ri rv h
theorem putIx_ok {F H : Hp} {α : Al} {μ : Mu} {r1 r2 : RV} {v1 v2 v : V} {d : D} {P : Mu → Prop} {Q : Hp → Prop} (h : Hold X.K F H α μ) (q1 : RvR X.K pn F α r1 v1) (q2 : RvR X.K pn F α r2 v2) (rv : R X.K F v d) (p : putIx r1 r2 d μ P)
    (k : ∀ H' μ', Hold X.K F H' α μ' → P μ' → Q H') : rSetA v1 v2 v H Q := by
  unfold putIx at p
  split at p
  · rename_i l kd
    obtain ⟨oo, eo, p⟩ := opt.of p
    obtain ⟨aa, ea, ev⟩ := q1
    cases oo with
    | lst xs =>
      cases kd with
      | int i =>
        obtain ⟨j, ej, p⟩ := opt.of p
        obtain ⟨nF, vs, q, rl⟩ := h.ob l aa _ ea eo
        cases q2
        refine .inl ⟨aa, vs, i, j, ev, rfl, q, by rw [rl.length]; exact ej, ?_⟩
        exact k _ _ (h.write (o := .lst (xs.set j d)) ea nF q (fun x z => nomatch z) ⟨nF, _, upd_same, rl.set rv j⟩) p
      | _ => exact p.elim
    | dic kvs =>
      obtain ⟨kk, ek, p1, p2⟩ := opt.of p
      obtain ⟨nF, vs, q, rl⟩ := h.ob l aa _ ea eo
      have q2 : R X.K F v2 kd := q2
      refine .inr ⟨aa, _, ev, .inl ⟨vs, kk, q, q2.dgk ek, by rw [rl.length, line_eq]; exact p1, rfl⟩, ?_⟩
      exact k _ _ (h.write (o := .dic (pk kvs kk d)) ea nF q (fun x z => nomatch z) ⟨nF, _, upd_same, rl.put rv⟩) p2
    | _ => exact p.elim
  · exact p.elim
theorem s_setix (hu : X.A.units + 64 < cLine) {o k e : Expr} {tpos pos : Pos} {a b c : E} (ho : PE X o (tE X.K pn W a)) (hk : PE X k (tE X.K pn W b)) (he : PE X e (tE X.K pn W c)) (hs : swapsWithSole [.Subscript o k tpos] e pos.line X.env = pure false) (hw : swappedStores [.Subscript o k tpos] e X.env = pure none)
    (ha : ∀ v, assign (.Subscript o k tpos) X.env v = (do
      let ov ← holding [v] (eval o X.env)
      let iv ← holding [v, ov] (eval k X.env)
      standAt tpos
      holding [v, ov, iv] (setItem ov iv v)
      release [v, ov, iv] [])) :
    PS X (.Assign [.Subscript o k tpos] e pos) (tS X.K pn W (.setix a b c)) := by
  refine PS.imp (ps_asg he (pg_sub ho hk (set_any hu) ha) hs hw rfl) ?_
  rintro D σ H ⟨F, α, ρ, μ, hd, sl, w⟩
  refine one1s hd sl w fun r0 μ0 v0 F0 α0 H0 g0 h0 rv0 p => ?_
  obtain ⟨⟨d, μ'⟩, e1, p⟩ := opt.of p
  obtain ⟨F1, g1, h1, r1⟩ := h0.freeze rv0 e1
  have g01 := g0.trans g1
  have sl1 := sl.mono g01
  refine two2 h1 sl1 (wpE.imp a p (fun _ _ w => wpE.imp b w (fun _ _ w => w) fun _ _ x => (exE sl x).go g01) fun _ _ x => (exE sl x).go g01) fun r1' r2 μ2 v1 v2 F2 α2 H2 g2 h2 rv1 rv2 p => ?_
  exact putIx_ok h2 rv1 rv2 (r1.mono g2.1) p fun H3 μ3 h3 p => p F2 α2 H3 σ (g01.trans g2) h3 (sl.mono (g01.trans g2))
/-- a1[k1], a2[k2] = (e1, e2) -/
theorem s_as2 (hu : X.A.units + 64 < cLine) (hc : X.calm = true) {o1 k1 o2 k2 e1 e2 : Expr} {p1 p2 pt pv pos : Pos} {kt kv : Nat} {a1 b1 a2 b2 c1 c2 : E} (ho1 : PE X o1 (tE X.K pn W a1)) (hk1 : PE X k1 (tE X.K pn W b1)) (ho2 : PE X o2 (tE X.K pn W a2)) (hk2 : PE X k2 (tE X.K pn W b2))
    (hv : PE X (.Tuple [e1, e2] kv pv) (tE X.K pn W (.tup (.cons c1 (.cons c2 .nil))))) (hs : swapsWithSole [.Tuple [.Subscript o1 k1 p1, .Subscript o2 k2 p2] kt pt] (.Tuple [e1, e2] kv pv) pos.line X.env = pure false)
    (hw : swappedStores [.Tuple [.Subscript o1 k1 p1, .Subscript o2 k2 p2] kt pt] (.Tuple [e1, e2] kv pv) X.env = pure none)
    (ha1 : ∀ v, assign (.Subscript o1 k1 p1) X.env v = (do
      let ov ← holding [v] (eval o1 X.env)
      let iv ← holding [v, ov] (eval k1 X.env)
      standAt p1
      holding [v, ov, iv] (setItem ov iv v)
      release [v, ov, iv] []))
    (ha2 : ∀ v, assign (.Subscript o2 k2 p2) X.env v = (do
      let ov ← holding [v] (eval o2 X.env)
      let iv ← holding [v, ov] (eval k2 X.env)
      standAt p2
      holding [v, ov, iv] (setItem ov iv v)
      release [v, ov, iv] [])) :
    PS X (.Assign [.Tuple [.Subscript o1 k1 p1, .Subscript o2 k2 p2] kt pt] (.Tuple [e1, e2] kv pv) pos) (tS X.K pn W (.as2 a1 b1 a2 b2 c1 c2)) := by
  refine PS.imp (ps_asg hv (pg_tup hc (pgs_cons (pg_sub ho1 hk1 (set_any hu) ha1) (pgs_cons (pg_sub ho2 hk2 (set_any hu) ha2) pgs_nil rfl) rfl) (n := 2) rfl rfl) hs hw rfl) ?_
  rintro D σ H ⟨F, α, ρ, μ, hd, sl, w⟩
  have w' : wpE (.tup (.cons c1 (.cons c2 .nil))) ρ μ (fun rv μ0 => ∃ d1 d2, rv = .dat (.tup [d1, d2]) ∧ wpE a1 ρ μ0 (fun r1 μ1 => wpE b1 ρ μ1 (fun r2 μ2 => putIx r1 r2 d1 μ2 fun μ3 => wpE a2 ρ μ3 (fun r3 μ4 => wpE b2 ρ μ4 (fun r4 μ5 => putIx r3 r4 d2 μ5 fun μ6 => (kS X.K pn F α W D).nx ρ μ6) fun x m => (kS X.K pn F α W D).ex x ρ m) fun x m => (kS X.K pn F α W D).ex x ρ m) fun x m => (kS X.K pn F α W D).ex x ρ m) fun x m => (kS X.K pn F α W D).ex x ρ m) (fun x m => (kS X.K pn F α W D).ex x ρ m) := by
    refine wpA.imp _ w (fun rs μ0 q => opt.imp q fun ds q => ?_) fun _ _ z => z
    split at q
    · exact ⟨by simp, _, _, rfl, q⟩
    · exact q.elim
  refine one1s hd sl w' fun r0 μ0 v0 F0 α0 H0 g0 h0 rv0 p => ?_
  obtain ⟨d1, d2, rfl, p⟩ := p
  have rt : R X.K F0 v0 (.tup [d1, d2]) := rv0
  cases rt with
  | tup hs rl =>
    cases rl with
    | cons q1 rl =>
      cases rl with
      | cons q2 rl =>
        cases rl
        refine ⟨_, _, rfl, h0.le.sqT hs, rfl, _, _, rfl, ?_⟩
        have sl0 := sl.mono g0
        refine two2 h0 sl0 (wpE.imp a1 p (fun _ _ w => wpE.imp b1 w (fun _ _ w => w) fun _ _ x => (exE sl x).go g0) fun _ _ x => (exE sl x).go g0) fun r1 r2 μ2 v1 v2 F2 α2 H2 g2 h2 rv1 rv2 p => ?_
        refine putIx_ok h2 rv1 rv2 (q1.mono g2.1) p fun H3 μ3 h3 p => ⟨_, _, rfl, ?_⟩
        have g02 := g0.trans g2
        have sl2 := sl.mono g02
        refine two2 h3 sl2 (wpE.imp a2 p (fun _ _ w => wpE.imp b2 w (fun _ _ w => w) fun _ _ x => (exE sl x).go g02) fun _ _ x => (exE sl x).go g02) fun r3 r4 μ4 v3 v4 F4 α4 H4 g4 h4 rv3 rv4 p => ?_
        refine putIx_ok h4 rv3 rv4 (q2.mono (g2.1.trans g4.1)) p fun H5 μ5 h5 p => ⟨rfl, ?_⟩
        exact p F4 α4 H5 σ (g02.trans g4) h5 (sl.mono (g02.trans g4))
theorem put_rel {K : PySem.W.Frag} {F : Hp} {f : Str} {r : D} {v : V} (h : R K F v r) : ∀ {fs : List (Str × D)} {vs : List (Str × V)}, RF K F vs fs → RF K F (putF f v vs) (putD f r fs)
  | _, _, .nil => .cons h .nil
  | _, _, .cons (f := g) h2 h3 => by
    unfold putD putF
    split
    · exact .cons h h3
    · exact .cons h2 (put_rel h h3)
theorem s_setfl {o e : Expr} {c f : Str} {tpos pos : Pos} {a b : E} (ho : PE X o (tE X.K pn W a)) (he : PE X e (tE X.K pn W b)) (cl : Cls X.K (He.ga X.K c)) (na : NoAttr X.K (He.ga X.K c) f) (hs : swapsWith e (some (.Attribute o f tpos)) pos.line X.env = pure false) :
    PS X (.Assign [.Attribute o f tpos] e pos) (tS X.K pn W (.setfl a c f b)) := by
  refine PS.imp (ps_fld ho he hs) ?_
  rintro D σ H ⟨F, α, ρ, μ, hd, sl, w⟩
  refine one1s hd sl w fun r0 μ0 v0 F0 α0 H0 g0 h0 rv0 p => ?_
  obtain ⟨⟨d, μ'⟩, e1, p⟩ := opt.of p
  obtain ⟨F1, g1, h1, r1⟩ := h0.freeze rv0 e1
  have g01 := g0.trans g1
  refine one1 h1 (sl.mono g01) (wpE.imp a p (fun _ _ w => w) fun _ _ x => (exE sl x).go g01) fun r2 μ2 v2 F2 α2 H2 g2 h2 rv2 p => ?_
  cases r2 with
  | dat _ => exact p.elim
  | exc _ _ => exact p.elim
  | since _ _ _ => exact p.elim
  | loc l =>
    obtain ⟨oo, eo, p⟩ := opt.of p
    obtain ⟨aa, ea, ev⟩ := rv2
    cases oo with
    | ins c' fs =>
      obtain ⟨rfl, hz, p⟩ := p
      obtain ⟨nF, dx, vs, q, q2, n2, fv⟩ := h2.ob l aa _ ea eo
      have na' : dx ≠ aa := by rintro rfl; rw [q] at q2; cases q2
      refine ⟨aa, _, dx, vs, ev, q, cl, na, by rw [fv.length]; exact hz, ?_⟩
      refine p F2 α2 _ σ (g01.trans g2) (h2.write ea nF q (fun x z => nomatch z) ⟨nF, dx, _, upd_same, by rw [upd_ne na']; exact q2, n2, ?_⟩) (sl.mono (g01.trans g2))
      exact put_rel (r1.mono g2.1) fv
    | _ => exact p.elim
/-- raise C(..): fs the attributes that C's __init__ gives -/
def tRse (K : PySem.W.Frag) (c : Str) (fs : List Str) (t : TA) : L2.St → Hp → XK → Prop := fun σ H Q => t σ H fun vs H1 => vs.length = fs.length ∧ ∀ d, H1 d = none → Q (.ref (He.ga K c)) (some d) (upd H1 d (.xd (fs.zip vs)))
theorem zip_rel {K : PySem.W.Frag} {F : Hp} : ∀ {fs : List Str} {vs : List V} {ds : List D}, RL K F vs ds → RF K F (fs.zip vs) (fs.zip ds)
  | [], _, _, _ => .nil
  | _ :: _, _, _, .nil => .nil
  | _ :: fs, _, _, .cons h r => .cons h (zip_rel (fs := fs) r)
theorem s_rse {e : Expr} {pos : Pos} {c : Str} {fs : List Str} {as : As} (hc : X.calm = true) (tk : Takes X W) (hm : PMk X e (tRse X.K c fs (tAs X.K pn W as))) : PS X (.Raise (some e) none pos) (tS X.K pn W (.rse c fs as)) := by
  refine PS.imp (ps_raise hc tk hm) ?_
  rintro D σ H ⟨F, α, ρ, μ, hd, sl, w⟩
  refine asR hd sl (wpA.imp as w (fun _ _ w => w) fun _ _ x => exE sl x) fun rs μ1 vs F1 α1 H1 g1 h1 rv p => ?_
  obtain ⟨ds, e1, p1, p⟩ := opt.of p
  have l := datsOf_rel e1 rv
  refine ⟨by rw [l.length]; exact p1, fun d nd => ?_⟩
  obtain ⟨h2, g2⟩ := h1.new (u := .xd (fs.zip vs)) nd fun _ _ z => nomatch z
  exact p _ (some d) _ α1 _ σ (g1.trans g2) h2 (sl.mono (g1.trans g2)) ⟨rfl, .inr ⟨d, _, rfl, upd_same, (zip_rel l).mono g2.1⟩⟩
theorem s_rseK {e : Expr} {pos : Pos} {c : Str} (hc : X.calm = true) (tk : Takes X W) (hm : PMk X e (fun _ H Q => Q (.ref (He.ga X.K c)) none H)) : PS X (.Raise (some e) none pos) (tS X.K pn W (.rseK c)) := by
  refine PS.imp (ps_raise hc tk hm) ?_
  rintro D σ H ⟨F, α, ρ, μ, hd, sl, w⟩
  exact w _ none F α H σ .refl hd sl ⟨rfl, .inl ⟨rfl, rfl⟩⟩
end

section
variable {K : PySem.W.Frag} {pn : List (Addr × Obj)} {F H : Hp} {α : Al} {μ : Mu} {n : Nat}
theorem Hold.take (h : Hold K F H α μ) : Hold K F H ⟨α.as.take n, α.hid⟩ (μ.take n) := by
  refine ⟨h.le, h.fr, by simp [h.len], h.nd.sublist (List.take_sublist _ _), fun a ha => h.al a (List.mem_of_mem_take ha), fun l a o e1 e2 => ?_, fun a vs e => ?_⟩
  · have e1 : (α.as.take n)[l]? = some a := e1
    have hl : l < n := by
      have := (List.getElem?_eq_some_iff.mp e1).1
      simp at this; omega
    rw [List.getElem?_take_of_lt hl] at e1 e2
    have z := h.ob l a o e1 e2
    cases o with
    | lst xs => exact z
    | dic kvs => exact z
    | dit kvs => exact z
    | frz d => exact z
    | ins c fs => exact z
    | tab q => exact z
  · obtain ⟨q1, q2, q3⟩ := h.hd a vs e
    exact ⟨q1, q2, fun z => q3 (List.mem_of_mem_take z)⟩
end
/-- how a def ends: its result is data (own = false), or a new thing of the store's (own = true); the store is cut back -/
def finQ (own : Bool) (n : Nat) (Q : QV) : QV := fun rv μ' => match own with
  | false => opt (fz μ' rv) fun p => Q (.dat p.1) (p.2.take n)
  | true => match rv with
    | .loc l => opt (μ'[l]?) fun o => n ≤ l ∧ Q (.loc n) (μ'.take n ++ [o])
    | _ => False
def fin (own : Bool) (n : Nat) (Q : QV) (X : QX) : Kt where
  nx := fun _ μ' => finQ own n Q (.dat .non) μ'
  rt := finQ own n Q
  bk := fun _ _ => False
  ct := fun _ _ => False
  ex := fun e _ μ' => X e (μ'.take n)
theorem go_take {F F' : Hp} {α α' : Al} {n : Nat} (g : Go F F' α α') (e : α.as.length = n) : Go F F' α ⟨α'.as.take n, α'.hid⟩ := by
  obtain ⟨l, h, β, eβ⟩ := g
  refine ⟨l, h, [], ?_⟩
  show α'.as.take n = _
  rw [eβ, ← e, List.append_nil, List.take_left]
theorem fin_ok {K : PySem.W.Frag} {F F' H' : Hp} {α α' : Al} {μ μ' : Mu} {own : Bool} {rv : RV} {v : V} {Q : QV} {Qv : VK} (hl : α.as.length = μ.length) (g : Go F F' α α') (hd : Hold K F' H' α' μ') (r : RvR K [] F' α' rv v)
    (hQ : ∀ rv μ', Q rv μ' → ∀ v F' α' H', Go F F' α α' → Hold K F' H' α' μ' → RvR K [] F' α' rv v → Qv v H') (h : finQ own μ.length Q rv μ') : Qv v H' := by
  cases own with
  | false =>
    obtain ⟨⟨d, μ2⟩, e1, q⟩ := opt.of h
    obtain ⟨F2, g2, h2, r2⟩ := hd.freeze r e1
    exact hQ _ _ q v F2 _ H' (go_take (g.trans g2) hl) h2.take r2
  | true =>
    cases rv with
    | dat _ => exact h.elim
    | exc _ _ => exact h.elim
    | since _ _ _ => exact h.elim
    | loc l =>
      obtain ⟨o, eo, hnl, q⟩ := opt.of h
      obtain ⟨a, ea, rfl⟩ := r
      have ht := hd.take (n := μ.length)
      have gt := go_take g hl
      have zo := hd.ob l a o ea eo
      have na : a ∉ α'.as.take μ.length := fun z => by
        obtain ⟨i, hi⟩ := List.mem_iff_getElem?.mp z
        have hlt : i < μ.length := by
          have := (List.getElem?_eq_some_iff.mp hi).1
          simp at this; omega
        rw [List.getElem?_take_of_lt hlt] at hi
        have : i ≠ l := by omega
        exact hd.ne hi ea this rfl
      have nh : α'.hid a = none := by
        cases q : α'.hid a with
        | none => rfl
        | some vs => exact absurd (get_mem ea) (hd.hd a vs q).2.2
      have zo' : ObR K F' H' ⟨α'.as.take μ.length, α'.hid⟩ a o := by
        cases o with
        | lst xs => exact zo
        | dic kvs => exact zo
        | dit kvs => exact zo
        | frz d => exact zo
        | ins c fs => exact zo
        | tab q => exact zo
      obtain ⟨h3, g3⟩ := ht.own (p := a) (o := o) (hd.al a (get_mem ea)) na nh zo'
      refine hQ _ _ q _ F' _ H' (gt.trans g3) h3 ⟨a, ?_, rfl⟩
      show (α'.as.take μ.length ++ [a])[μ.length]? = some a
      have hlen : (α'.as.take μ.length).length = μ.length := by
        obtain ⟨_, _, β, eβ⟩ := g
        rw [eβ, ← hl, List.take_left]
      rw [List.getElem?_append_right (by rw [hlen]; exact Nat.le_refl _), hlen]
      simp
theorem slots_start {K : PySem.W.Frag} {F : Hp} {α : Al} {N : List Str} : ∀ {rs : List RV} {vs : List V}, RvRs K [] F α rs vs → Slots K [] F α (rs.map some ++ List.replicate (N.length - rs.length) none) (L2.start N vs) := by
  intro rs vs h
  have hl : rs.length = vs.length := by
    induction rs generalizing vs with
    | nil => cases vs with | nil => rfl | cons _ _ => exact h.elim
    | cons r rs ih => cases vs with | nil => exact h.elim | cons v vs => exact congrArg (· + 1) (ih h.2)
  unfold L2.start
  refine ⟨by simp [hl], fun i rv e => ?_⟩
  by_cases hi : i < rs.length
  · rw [List.getElem?_append_left (by simpa using hi)] at e
    rw [List.getElem?_append_left (by simpa [← hl] using hi)]
    have e' : rs[i]? = some rv := by
      rw [List.getElem?_map] at e
      obtain ⟨r, e1, e2⟩ := Option.map_eq_some_iff.mp e
      cases e2; exact e1
    have key : ∀ (rs : List RV) (vs : List V) (i : Nat), RvRs K [] F α rs vs → rs[i]? = some rv → ∃ v, (vs.map some)[i]? = some (some v) ∧ RvR K [] F α rv v := by
      intro rs
      induction rs with
      | nil => intro vs i _ e; cases e
      | cons r rs ih =>
        intro vs i h e
        cases vs with
        | nil => exact h.elim
        | cons v vs =>
          cases i with
          | zero => cases e; exact ⟨v, rfl, h.1⟩
          | succ i => exact ih vs i h.2 (by simpa using e)
    exact key rs vs i h e'
  · rw [List.getElem?_append_right (by simp; omega), List.getElem?_replicate] at e
    split at e <;> cases e
/-- what is asked of the term of a def's body: at each place of the right kind -/
def BodyOk (P : Program) (w : World) (K : PySem.W.Frag) (mg : Str → Option Value) (base : Heap) (k : Nat) (N : List Str) (scope : Scope) (body : List Stmt) (a : S) : Prop :=
  ∀ (X : Cx) (W : WX), X.prog = P → X.w = w → X.K = K → X.mg = mg → X.base = base → X.N = N → X.env.scope = scope → X.calm = true → (∀ x, X.fn x = true) → PassesOwn (model X.prog X.w) X.A X.env X.xe → Takes X W → Room k X.A → X.stack = X.env :: X.outer → X.env.frame = some X.env.locals → PSs X body (tS X.K [] W a)
theorem def_fk {P : Program} {w : World} {K : PySem.W.Frag} {mg : Str → Option Value} {base : Heap} {x qual : Str} {params : Arguments} {body : List Stmt} {scope : Scope} {dvs : List V} {kws : List (Str × V)} {f : Addr} {fd : FuncData} {N ps : List Str} {k : Nat} {Sp : Spc} {a : S} {own : Bool}
    (F : FunD K x qual params body scope dvs kws f fd) (hS : FnScope N ps scope) (len : ∀ rs μ Q X, Sp.run rs μ Q X → rs.length = ps.length) (hB : BodyOk P w K mg base k N scope body a)
    (wp : ∀ rs μ Q X, Sp.run rs μ Q X → wpS a (rs.map some ++ List.replicate (N.length - rs.length) none) μ (fin own μ.length Q X)) : FnOk P w K mg base (CX P w) (k + 1) f fd ps (lift K Sp) := by
  have rlen : ∀ {F : Hp} {α : Al} {rs : List RV} {vs : List V}, RvRs K [] F α rs vs → rs.length = vs.length := by
    intro F α rs
    induction rs with
    | nil => intro vs h; cases vs with | nil => rfl | cons _ _ => exact h.elim
    | cons r rs ih => intro vs h; cases vs with | nil => exact h.elim | cons v vs => exact congrArg (· + 1) (ih h.2)
  refine fun_ok F hS (fun vs H Q E h => ?_) fun cdv A outer s H vs Q E hr h => ?_
  · obtain ⟨F, α, μ, rs, hd, rv, h⟩ := h
    rw [← rlen rv]; exact len _ _ _ _ h
  · obtain ⟨F0, α, μ, rs, hd, rv, h⟩ := h
    refine ⟨_, hB (cxOf (CX P w) P w K mg base N qual scope f cdv A outer s H E) (fun cls d _ H => E cls d H) rfl rfl rfl rfl rfl rfl rfl rfl (fun _ => rfl) (passes_of rfl) (takes_of rfl rfl rfl rfl) hr rfl rfl, ?_⟩
    refine ⟨F0, α, rs.map some ++ List.replicate (N.length - rs.length) none, μ, hd, slots_start rv, wpS.imp a (wp rs μ _ _ h) ?_⟩
    refine ⟨fun ρ' μ' q F' α' H' σ' g h' sl => ?_, fun rv μ' q v F' α' H' g h' r => ?_, fun _ _ q => q.elim, fun _ _ q => q.elim, fun e ρ' μ' q cls d F' α' H' σ' g h' sl r => ?_⟩
    · exact fin_ok (rv := .dat .non) (v := .non) hd.len g h' R.non (fun _ _ q => q) q
    · exact fin_ok hd.len g h' r (fun _ _ q => q) q
    · exact q cls d F' _ H' (go_take g hd.len) h'.take r
theorem def_ok {P : Program} {w : World} {K : PySem.W.Frag} {mg : Str → Option Value} {base : Heap} {x qual : Str} {params : Arguments} {body : List Stmt} {scope : Scope} {dvs : List V} {kws : List (Str × V)} {f : Addr} {fd : FuncData} {N ps : List Str} {k : Nat} {Sp : Spc} {a : S} {own : Bool}
    (F : FunD K x qual params body scope dvs kws f fd) (hS : FnScope N ps scope) (hb : Binds K fd ps []) (len : ∀ rs μ Q X, Sp.run rs μ Q X → rs.length = ps.length) (hB : BodyOk P w K mg base k N scope body a)
    (wp : ∀ rs μ Q X, Sp.run rs μ Q X → wpS a (rs.map some ++ List.replicate (N.length - rs.length) none) μ (fin own μ.length Q X)) : FnR P w K mg base (CX P w) (k + 1) f (lift K Sp) := by
  have FK : FnOk P w K mg base (CX P w) (k + 1) f fd ps (lift K Sp) := def_fk F hS len hB wp
  intro A outer s H us vs Q E hr e0 r h
  have KX : K.In s.heap := e0.mod.kin.keeps fun b o e => (e0.bs b o e).1
  have hl : us.length = ps.length := by rw [← r.length]; exact FK.len _ _ _ _ h
  have b := hb s us KX (by rw [List.append_nil]; exact hl)
  rw [List.append_nil] at b
  exact FK.run A outer s H ⟨us, []⟩ us vs Q E hr e0 b r h
end DL

namespace DX
open PySem PySem.W PySem.Calls PyProof.Rows PySem.HandSPX

def sup (t : Str) (k : Nat) (p0 p1 p2 p3 p4 p5 : Pos) : Stmt := .Expr (.Call (.Attribute (.Call (.Name "super" p0) [] [] p1) "__init__" p2) [.Constant (.str t) k p3] [] p4) p5
def put (f : Str) (q1 q2 q3 q4 : Pos) : Stmt := .Assign [.Attribute (.Name "self" q1) f q2] (.Name f q3) q4
def prm (fs : List (Str × Pos)) (p : Pos) : Arguments := { posonlyargs := [], args := { arg := "self", annotation := none, pos := p } :: fs.map fun q => { arg := q.1, annotation := none, pos := q.2 }, vararg := none, kwonlyargs := [], kw_defaults := [], kwarg := none, defaults := [] }

/-- what is written of an exception's class at C, its __init__ at fI -/
structure XTxt (P : Program) (K : Frag) (C fI : Addr) : Prop where
  cls : ∃ nm q N bs bm sn sub ab col dd k0 k1 k2 k3 k5, K.lookup C = some (excClassObj nm q C N bs bm true sn sub ab col dd k0 k1 k2 k3 k5 "ValueError.__new__") ∧ refsVE bm = true
  sa : findIn K (.ref C) "__setattr__" = some (some (.builtin "object.__setattr__"))
  iC : findIn K (.ref C) "__init__" = some (some (.ref fI))
  tC : typeIn K (.ref fI) = some (.type "function")
  kC : keepIn K (.ref C) = true
  exC : subIn K (.ref C) (.type "BaseException") = some true
  veC : subIn K (.ref C) (.type "ValueError") = some true
  tyC : typeIn K (.ref C) = some (.type "type")
  hdC : hasDictIn K C = true
  sup : ks_superIn K C C "__init__" = some (some (.builtin "ValueError.__init__"))
  opq : nsIn K cStatics "thirdparty.any" = some none
  self : mroIn K C (.ref C) = some true
  top : (P.main.scope.names.lookup ("super" : Str)).isSome = false

structure XFn (P : Program) (K : Frag) (C fI : Addr) (name qual : Str) (params : Arguments) (body : List Stmt) (scope : Scope) (cc cda : Addr) : Prop where
  fn : ∃ (oc : Value) (od : Option Addr) (doc pm : Value) (an : Option Addr) (ct : Value) (osl : Array (Option Value)), K.lookup fI = some ⟨oc, od, .func (ksFn name qual params body scope .none .none doc pm an (.ref cda) ct cc), osl⟩
  cd : codeIn K (.ref cda) qual = true
  co : ∃ ccl cdd vs ccs file tf, K.lookup cda = some ⟨ccl, cdd, .fields vs, ccs⟩ ∧ vs[2]? = some (.str file tf) ∧ ((P.main.file : Str) == file) = true
  ce : ∃ cl cld csl, K.lookup cc = some ⟨cl, cld, .cell (some (.ref C)), csl⟩
  nocell : ∀ x ∈ scope.names, x.2 ≠ .cell
  nsup : scope.names.lookup ("super" : Str) = some .globalImplicit
  ncls : scope.names.lookup ("__class__" : Str) = some .free
  nself : scope.names.lookup ("self" : Str) = some .local
  k1 : scope.isCoroutine = false
  k2 : scope.isGenerator = false
  k3 : scope.kind = .function

/-- the namespaces that stand -/
structure Sp (mg : Str → Option Value) (h : Heap) : Prop where
  g : h.Ns mainGlobals mg
  b : ∃ mb, h.Ns builtinsNs mb ∧ ∀ x : Str, x ≠ "__name__" → mb x = bootBuiltins x
  sup : mg "super" = none
theorem boot_super : bootBuiltins "super" = some (.type "super") := by decide +kernel
theorem one_size (v : Value) : [v].length ≤ sizeLine := by
  rw [sizeLine_eq]
  exact (by decide : 1 ≤ 16777216)
structure InitEnd (h h' : Heap) (x C dx t1 : Addr) (m : Str → Option Value) : Prop where
  keep : ∀ b o, b ≠ x → h.get? b = some o → h'.get? b = some o
  obj : h'.get? x = some { cls := .ref C, dict := some dx, data := .fields #[.ref t1, .none, .none, .none, .bool false, .none] }
  dbig : h.objs.size ≤ dx
  dne : dx ≠ x
  ns : h'.Ns1 dx m

section
variable {prog : Program} {w : World} {A : Around} {E : Value → Shared → Prop} {R : Result → Shared → Prop} {s : Shared} {K : Frag} {mg : Str → Option Value} {C fI cc cda : Addr} {name qual : Str} {params : Arguments} {body : List Stmt} {scope : Scope}
theorem ldX {M : Model} {L a c : Addr} {cd : Value} {m : Str → Option Value} {x : Str} {pos : Pos} {v : Value} {Q : Value → Shared → Prop} (hk : scope.kind = .function) (hl : scope.names.lookup x = some .local) (hn : s.heap.Ns L m) (hv : m x = some v) (h : Q v s)
    (hd : (x == ("__debug__" : Str)) = false) : wpAny M A (eval (.Name x pos) (ksEnv qual scope L a cd c)) Q E s := wpAny_Name (wpAny_loadName_local hk hl hn hv h) hd
theorem meth_ev {o : Expr} {m : Str} {apos pos : Pos} {es : List Expr} {env : Env} (hf : methodCallForm (es.length + ([] : List Keyword).length) (backTo pos (starEach es env)) (backToKw pos (keywordEach [] env)) = true) (hl : (apos.endLine == pos.line) = true) :
    eval (.Call (.Attribute o m apos) es [] pos) env = (do
      let ov ← attributeBase o m env (eval o env)
      standAt apos.atName
      let (f, first) ← holding [ov] (getMethod ov m (do return (← importBound o env).getD true))
      callWith pos f first (backTo pos (starEach es env)) []) := by
  rw [eval]
  congr 1
  funext ov
  congr 1
  funext _
  unfold methodCall calleeOf methodCallPos
  rw [hf, hl]
  simp
  rfl
/-- super().__init__('..') -/
theorem sup_ok (T : XTxt prog K C fI) (F : XFn prog K C fI name qual params body scope cc cda) {L x t0 : Addr} {m : Str → Option Value} {t : Str} {k : Nat} {p0 p1 p2 p3 p4 p5 : Pos} {ar : Arg} {bd : List Stmt} {Q : Flow → Shared → Prop}
    (hl : (p2.endLine == p4.line) = true) (hp : (params.posonlyargs ++ params.args).head? = some ar) (har : ar.arg = "self") (X : K.In s.heap) (sp : Sp mg s.heap) (hn : s.heap.Ns L m) (hx : s.heap.get? x = some (excO C t0)) (hm : m "self" = some (.ref x))
    (hq : ∀ h' tk t1, (∀ b o, b ≠ x → s.heap.get? b = some o → h'.get? b = some o) → h'.get? x = some (excO C t1) → Q .next { s with heap := h', toks := tk }) :
    PySem.wpAt (model prog w) A (.func bd (ksEnv qual scope L fI (.ref cda) cc)) (exec (sup t k p0 p1 p2 p3 p4 p5) (ksEnv qual scope L fI (.ref cda) cc)) Q E s := by
  obtain ⟨oc, od, doc, pm, an, ct, osl, ho⟩ := F.fn
  obtain ⟨ccl, cdd, vs, ccs, file, tf, hcode, hvs, hfile⟩ := F.co
  obtain ⟨cl, cld, csl, hcell⟩ := F.ce
  obtain ⟨nm, q, N, bs, bm, sn, sub, ab, col, dd, k0, k1, k2, k3, k5, hC, hbm⟩ := T.cls
  obtain ⟨mb, hb1, hb2⟩ := sp.b
  have hcl : clsIn K C = some { name := nm, bases := bs, mro := .ref C :: bm, ns := N, qualname := q, hasDict := true, slotNames := sn, subclasses := sub, abstract := ab, collection := col, hasDel := false } := by unfold clsIn; rw [hC] <;> rfl
  have I : InstAt s.heap x (excO C t0) C none := ⟨hx, rfl, rfl, trivial⟩
  have hxC : x ≠ C := ks_ne X I hcl
  obtain ⟨hh, g, d, tk, os⟩ := s
  have hD := X _ _ hC
  refine PySem.ks_wpAt_Expr_any (PySem.ks_wpAt_MethodCall (pl := _) ?_ (meth_ev rfl hl)) (by unfold interactive; rw [F.k3]; rfl) rfl
  refine ks_wpAt_super_base (env := ksEnv qual scope L fI (.ref cda) cc) F.nsup F.ncls (by decide) rfl (X _ _ ho) rfl hp rfl (X _ _ hcode) rfl hvs hfile T.top ?_
  refine ks_loadName_global F.k3 F.nsup (Calls.loadGlobal_builtin (env := ksEnv qual scope L fI (.ref cda) cc) sp.g sp.sup hb1 ((hb2 "super" (by decide)).trans boot_super) ⟨rfl, ?_⟩)
  refine wpAny_loadName_free F.k3 F.ncls rfl ⟨_, X _ _ hcell, rfl⟩ ?_
  rw [har]
  refine wpAny_loadName_local F.k3 F.nself hn hm ?_
  refine ks_wpAny_isType_cls hD rfl ⟨rfl, ?_⟩
  refine ks_wpAny_call_super hD rfl hx rfl (fun c e => by cases e) (looks_mroIn X T.self) (fun h1 e1 kk1 => ?_)
  have X1 : K.In h1 := X.keeps kk1
  have hx1 := kk1 _ _ hx
  have I1 : InstAt h1 x (excO C t0) C none := ⟨hx1, rfl, rfl, trivial⟩
  have hl' : (((Value.ref C :: bm).dropWhile (· != .ref C)).drop 1) = bm := by simp [List.dropWhile_cons]
  have hal : alongIn K "__init__" bm = some (some (.builtin "ValueError.__init__")) := by
    have z := T.sup
    unfold ks_superIn at z
    rw [hcl, Option.bind_some] at z
    rw [← hl']; exact z
  refine kxs_getMethod kxs_ValueError e1 (looks_opaque X1 T.opq) (l₀ := .ref C :: bm) ?_ hl' X1 hal (I1.type.andThen (looks_subIn X1 T.veC)) hxC (by decide) ?_
  · exact fun A Q E s k q => wpAny_bind ((looks_clsIn X1 hcl) A _ E s k (wpAny_pure q))
  have kk2 : ∀ b o, h1.get? b = some o → (h1.push (kxs_mw "ValueError.__init__" x)).get? b = some o := fun b o e => Heap.get?_push_of_some _ e
  have hu : (h1.push (kxs_mw "ValueError.__init__" x)).get? h1.objs.size = some (kxs_mw "ValueError.__init__" x) := Heap.get?_push_at rfl rfl
  refine kxs_callWith (i := "ValueError.__init__") (x := x) rfl ?_
  refine evalArgs_plain ?_
  refine Calls.spliced_cons (wpAny_Constant_str (k := k) (pos := p3) ?_)
  refine Calls.spliced_nil ?_
  refine ⟨hu, ?_⟩
  show wpAny _ _ (call (.ref h1.objs.size) [Value.str t _]) _ _ _
  have FB := PySem.F.excBase_ValueError
  have hC2 := kk2 _ _ (kk1 _ _ hD)
  have hx2 := kk2 _ _ hx1
  refine wpAny_call (codeAny_of_tree ?_)
  show wpAny _ _ (callAny (.ref h1.objs.size) ⟨[Value.str t _], []⟩) _ _ _
  simp only [callAny]
  refine wpAny_bind (wpAny_load hu ?_)
  simp only [kxs_mw, show (Value.type "method-wrapper" == Value.type "method" || Value.type "method-wrapper" == Value.type "builtin_function_or_method" || Value.type "method-wrapper" == Value.type "method-wrapper") = true by decide, if_true]
  refine KFB.if_so (by decide) ?_
  refine wpAny_bind (check_bound_init FB.toExcCallFacts hC2 hx2 rfl ?_)
  refine wpAny_bind (wpAny_pure (wpAny_pure ?_))
  refine ⟨plainId_quiet FB.init.plain _, codeAny_builtin FB.initEntry ?_⟩
  refine exc_init_tree (cls := .ref C) (t0 := t0) (dv := none) (c2 := .none) (c3 := .none) (b4 := .bool false) hx2 (one_size _) fun h3 kk3 e3 _ => ?_
  exact hq h3 _ _ (fun b o hb e => kk3 b o hb (kk2 b o (kk1 b o e))) e3
theorem lk2 {x y : Str} {a b : Value} (h : y ≠ x) : ([(x, a), (y, b)] : List (Str × Value)).reverse.lookup x = some a ∧ ([(x, a), (y, b)] : List (Str × Value)).reverse.lookup y = some b := by
  have e1 : (x == y) = false := by simpa using Ne.symm h
  constructor <;> simp [List.lookup, e1]
/-- the text of an __init__ with one field -/
structure X1 (P : Program) (K : Frag) (C fI : Addr) (f : Str) : Prop where
  ex : ∃ name qual scope cc cda t k p0 p1 p2 p3 p4 p5 q1 q2 q3 q4 pp pf, XFn P K C fI name qual (prm [(f, pf)] pp) [sup t k p0 p1 p2 p3 p4 p5, put f q1 q2 q3 q4] scope cc cda ∧ (p2.endLine == p4.line) = true ∧ scope.names.lookup f = some .local
  ns : f ≠ "self"
  nd : (f == ("__debug__" : Str)) = false
  no : findIn K (.ref C) f = some none
theorem bind1 {name qual f : Str} {pf pp : Pos} {bd : List Stmt} {scope : Scope} {doc pm ct cd : Value} {an : Option Addr} {cc : Addr} {a b : Value} (h : f ≠ "self") : bindArgs (ksFn name qual (prm [(f, pf)] pp) bd scope .none .none doc pm an cd ct cc) ⟨[a, b], []⟩ = pure [((("self" : Str)), a), (f, b)] := by
  have e1 : (("self" : Str) == f) = false := by simpa using Ne.symm h
  have e2 : (f == ("self" : Str)) = false := by simpa using h
  unfold bindArgs
  simp [prm, ksFn, List.lookup, seqItems?, e1, e2]
  rfl
theorem init1 {f : Str} (T : XTxt prog K C fI) (G : X1 prog K C fI f) {x t0 : Addr} {v : Value} (X : K.In s.heap) (sp : Sp mg s.heap) (hlim : s.heap.NoLimit) (hx : s.heap.get? x = some (excO C t0)) (hnx : K.lookup x = none) (hroom : A.depth < recursionLimit)
    (hq : ∀ h' tk dx t1, InitEnd s.heap h' x C dx t1 (fun y => if y = f then some v else none) → R (.ok (.ret .none)) { s with heap := h', toks := tk }) :
    codeAny (model prog w) A (.call (.ref fI) ⟨[.ref x, v], []⟩) R s := by
  obtain ⟨name, qual, scope, cc, cda, t, k, p0, p1, p2, p3, p4, p5, q1, q2, q3, q4, pp, pf, F, hl, hsc⟩ := G.ex
  obtain ⟨oc, od, doc, pm, an, ct, osl, ho⟩ := F.fn
  obtain ⟨nm, q, N, bs, bm, sn, sub, ab, col, dd, k0, k1, k2, k3, k5, hC, hbm⟩ := T.cls
  have hcl : clsIn K C = some { name := nm, bases := bs, mro := .ref C :: bm, ns := N, qualname := q, hasDict := true, slotNames := sn, subclasses := sub, abstract := ab, collection := col, hasDel := false } := by unfold clsIn; rw [hC] <;> rfl
  have lk := lk2 (a := .ref x) (b := v) G.ns
  refine ks_codeAny_call_defAt (fd := ksFn name qual (prm [(f, pf)] pp) [DX.sup t k p0 p1 p2 p3 p4 p5, put f q1 q2 q3 q4] scope .none .none doc pm an (.ref cda) ct cc) (body := [DX.sup t k p0 p1 p2 p3 p4 p5, put f q1 q2 q3 q4]) (binds := [("self", .ref x), (f, v)])
    hroom (X _ _ ho) rfl hlim (codeRec_of X F.cd) rfl (BindsTo.of_eq (bind1 G.ns)) F.nocell (fun y hy => ?_) (fun h₁ hns hk₁ => ?_) F.k1 F.k2 F.k3
  · rcases List.mem_cons.mp hy with rfl | hy
    · exact F.nself
    · rcases List.mem_cons.mp hy with rfl | hy
      · exact hsc
      · cases hy
  have X₁ : K.In h₁ := X.keeps hk₁
  obtain ⟨mb, hb1, hb2⟩ := sp.b
  have sp₁ : Sp mg h₁ := ⟨sp.g.keeps hk₁, ⟨mb, hb1.keeps hk₁, hb2⟩, sp.sup⟩
  have hxL : s.heap.objs.size ≠ x := Nat.ne_of_gt (Heap.lt_size hx)
  have hL : s.heap.objs.size < h₁.objs.size := hns.lt
  refine PySem.ks_wpAt_execs_cons (sup_ok (s := { s with heap := h₁, toks := s.toks + 2 }) (ar := { arg := "self", annotation := none, pos := pp }) T F hl rfl rfl X₁ sp₁ hns (hk₁ _ _ hx) lk.1 fun h₂ tk₂ t1 k₂ e₂ => ?_)
  refine PySem.wpAt_of_wpAny (wpAny_execs_cons (plainObj_wpAny_Assign_Attribute ?_ rfl))
  have hns₂ : h₂.Ns s.heap.objs.size (fun y => ([("self", .ref x), (f, v)] : List (Str × Value)).reverse.lookup y) := by
    obtain ⟨o, es, ep, z1, z2⟩ := hns
    exact ⟨o, es, ep, k₂ _ _ hxL z1, z2⟩
  have X₂ : K.In h₂ := fun a o e => k₂ a o (fun z => by rw [z, hnx] at e; cases e) (X₁ a o e)
  refine ldX F.k3 hsc hns₂ lk.2 (ldX F.k3 F.nself hns₂ lk.1 ?_ (by decide)) G.nd
  refine set_plain X₂ (ox := excO C t1) (od := none) ⟨e₂, rfl, rfl, trivial⟩ T.sa ?_
  refine exc_osa X₂ e₂ hcl (show refsVE (.ref C :: bm) = true from hbm) rfl G.no (fun h₃ tk₃ dx k₃ dn dne hx₃ hn₃ => ?_)
  refine wpAny_execs_nil (hq h₃ tk₃ dx t1 ⟨fun b o hb e => k₃ b o hb (k₂ b o hb (hk₁ b o e)), hx₃, ?_, dne, hn₃⟩)
  have z : s.heap.objs.size < h₂.objs.size := hns₂.lt
  exact Nat.le_trans (Nat.le_of_lt z) dn
/-- a made exception -/
structure Made (h h' : Heap) (e C d : Addr) (m : Str → Option Value) : Prop where
  keep : ∀ b o, h.get? b = some o → h'.get? b = some o
  new : h.objs.size ≤ e
  obj : ∃ oe vs, h'.get? e = some oe ∧ oe.cls = .ref C ∧ oe.dict = some d ∧ oe.data = .fields vs ∧ vs[1]? = some .none
  dbig : h.objs.size ≤ d
  dne : d ≠ e
  ns : h'.Ns1 d m
theorem made (T : XTxt prog K C fI) {us : List Value} {m : Str → Option Value} (hus : us.length ≤ sizeLine) (X : K.In s.heap)
    (hi : ∀ (A : Around) (R : Result → Shared → Prop) (x t0 : Addr) (s : Shared), s.heap.get? x = some (excO C t0) → K.lookup x = none → K.In s.heap → Sp mg s.heap → s.heap.NoLimit → A.depth < recursionLimit →
      (∀ h' tk dx t1, InitEnd s.heap h' x C dx t1 m → R (.ok (.ret .none)) { s with heap := h', toks := tk }) → codeAny (model prog w) A (.call (.ref fI) ⟨.ref x :: us, []⟩) R s)
    (sp : Sp mg s.heap) (hlim : s.heap.NoLimit) (hroom : A.depth + 1 < recursionLimit)
    (hq : ∀ h' tk e d, Made s.heap h' e C d m → R (.ok (.ret (.ref e))) { s with heap := h', toks := tk }) :
    codeAny (model prog w) A (.call (.ref C) ⟨us, []⟩) R s := by
  obtain ⟨nm, q, N, bs, bm, sn, sub, ab, col, dd, k0, k1, k2, k3, k5, hC, hbm⟩ := T.cls
  obtain ⟨hp, g, dr, tk, os⟩ := s
  have k : ∀ b o, hp.get? b = some o → ((hp.push (kdv_tup us)).push (excO C hp.objs.size)).get? b = some o := fun b o e => Heap.get?_push_of_some _ (Heap.get?_push_of_some _ e)
  have hget : ((hp.push (kdv_tup us)).push (excO C hp.objs.size)).get? (hp.objs.size + 1) = some (excO C hp.objs.size) := by heap_get
  have hnx : K.lookup (hp.objs.size + 1) = none := by
    cases e : K.lookup (hp.objs.size + 1) with
    | none => rfl
    | some o =>
      have z : hp.get? (hp.objs.size + 1) = some o := X _ _ e
      exact absurd (Nat.lt_of_succ_lt (Heap.lt_size z)) (Nat.lt_irrefl _)
  obtain ⟨mb, hb1, hb2⟩ := sp.b
  have sp₁ : Sp mg ((hp.push (kdv_tup us)).push (excO C hp.objs.size)) := ⟨sp.g.keeps k, ⟨mb, hb1.keeps k, hb2⟩, sp.sup⟩
  refine call_own PySem.F.excBase_ValueError (fun X => refsVE_contains X bm hbm) (X _ _ hC) (looks_findIn X T.iC) (fun self => bind_fn X self T.tC) hus ?_
  refine hi _ _ (hp.objs.size + 1) hp.objs.size ⟨(hp.push (kdv_tup us)).push (excO C hp.objs.size), g, dr, tk, os⟩ hget hnx (X.keeps k) sp₁ (hlim.keeps k) ?_ fun h' tk' dx t1 ⟨k', hx, dn, dne, hns⟩ => ?_
  · show A.depth + 1 < recursionLimit
    exact hroom
  · have old : ∀ b o, hp.get? b = some o → h'.get? b = some o := fun b o e => k' b o (Nat.ne_of_lt (Nat.lt_succ_of_lt (Heap.lt_size e))) (k b o e)
    have z : hp.objs.size + 1 + 1 ≤ dx := by
      first
        | (simpa only [Heap.size_push] using dn)
        | exact dn
        | (have q := dn; rw [Heap.size_push, Heap.size_push] at q; exact q)
    exact ⟨rfl, hq h' tk' (hp.objs.size + 1) dx ⟨old, Nat.le_succ _, ⟨_, _, hx, rfl, rfl, rfl, rfl⟩, Nat.le_trans (Nat.le_trans (Nat.le_succ _) (Nat.le_succ _)) z, dne, hns⟩⟩
end
end DX

namespace DX
open PySem PySem.W PySem.Calls PyProof.Rows PySem.HandSPX

def eqB (a b : Option Bool) : Bool := decide (a = b)
def xclsB (K : Frag) (C : Addr) : Bool := match K.lookup C with
  | some ⟨.type "type", _, .cls cd, sl⟩ => (match cd.mro, sl.toList with
    | .ref C' :: bm, [_, _, _, _, some (.builtin n), _] => C' == C && n == "ValueError.__new__" && !cd.hasDel && cd.hasDict && refsVE bm
    | _, _ => false)
  | _ => false
theorem xcls_of {K : Frag} {C : Addr} (q : xclsB K C = true) : ∃ nm q N bs bm sn sub ab col dd k0 k1 k2 k3 k5, K.lookup C = some (excClassObj nm q C N bs bm true sn sub ab col dd k0 k1 k2 k3 k5 "ValueError.__new__") ∧ refsVE bm = true := by
  unfold xclsB at q
  split at q
  · rename_i dd cd sl ho
    split at q
    · rename_i C' bm k0 k1 k2 k3 n k5 hm hs
      simp only [Bool.and_eq_true, beq_iff_eq, Bool.not_eq_true'] at q
      obtain ⟨⟨⟨⟨rfl, rfl⟩, hdel⟩, hd⟩, ht⟩ := q
      obtain ⟨nm, bs, mro, ns, qn, hdx, sn, sub, ab, col, del⟩ := cd
      dsimp only at hm hdel hd
      subst hm hdel hd
      have hsl : sl = #[k0, k1, k2, k3, some (.builtin "ValueError.__new__"), k5] := by
        obtain ⟨l⟩ := sl
        simp only at hs
        rw [hs]
      subst hsl
      exact ⟨nm, qn, ns, bs, bm, sn, sub, ab, col, dd, k0, k1, k2, k3, k5, ho, ht⟩
    · cases q
  · cases q
def eqT (a b : Option Value) : Bool := decide (a = b)
/-- the class c with an own __init__ -/
def xtB (P : Program) (K : Frag) (C fI : Addr) : Bool := xclsB K C && (He.eqO (findIn K (.ref C) "__setattr__") (some (some (.builtin "object.__setattr__"))) && (He.eqO (findIn K (.ref C) "__init__") (some (some (.ref fI))) && (eqT (typeIn K (.ref fI)) (some (.type "function")) &&
  (keepIn K (.ref C) && (eqB (subIn K (.ref C) (.type "BaseException")) (some true) && (eqB (subIn K (.ref C) (.type "ValueError")) (some true) && (eqT (typeIn K (.ref C)) (some (.type "type")) && (hasDictIn K C && (He.eqO (ks_superIn K C C "__init__") (some (some (.builtin "ValueError.__init__"))) &&
  (He.eqO (nsIn K cStatics "thirdparty.any") (some none) && (eqB (mroIn K C (.ref C)) (some true) && !(P.main.scope.names.lookup ("super" : Str)).isSome)))))))))))
theorem xt_of {P : Program} {K : Frag} {C fI : Addr} (h : xtB P K C fI = true) : XTxt P K C fI := by
  unfold xtB at h
  simp only [Bool.and_eq_true] at h
  obtain ⟨h1, h2, h3, h4, h5, h6, h7, h8, h9, h10, h11, h12, h13⟩ := h
  exact ⟨xcls_of h1, He.eqO_ok h2, He.eqO_ok h3, of_decide_eq_true h4, h5, of_decide_eq_true h6, of_decide_eq_true h7, of_decide_eq_true h8, h9, He.eqO_ok h10, He.eqO_ok h11, of_decide_eq_true h12, by simpa using h13⟩
def scB (f : Str) (sc : Scope) : Bool := (sc.names.all fun y => y.2 != .cell) && (decide (sc.names.lookup ("super" : Str) = some .globalImplicit) && (decide (sc.names.lookup ("__class__" : Str) = some .free) && (decide (sc.names.lookup ("self" : Str) = some .local) && (!sc.isCoroutine && (!sc.isGenerator && (sc.kind == .function && decide (sc.names.lookup f = some .local)))))))
def bodyB (f : Str) : List Stmt → Bool
  | [.Expr (.Call (.Attribute (.Call (.Name s _) [] [] _) i p2) [.Constant (.str _) _ _] [] p4) _, .Assign [.Attribute (.Name s1 _) f1 _] (.Name f2 _) _] => s == "super" && (i == "__init__" && (p2.endLine == p4.line && (s1 == "self" && (f1 == f && f2 == f))))
  | _ => false
def prmB (f : Str) : Arguments → Bool
  | ⟨[], [⟨a, none, _⟩, ⟨b, none, _⟩], none, [], [], none, []⟩ => a == "self" && b == f
  | _ => false
def cellB (K : Frag) (cc C : Addr) : Bool := match K.lookup cc with
  | some ⟨_, _, .cell (some (.ref D)), _⟩ => D == C
  | _ => false
def codeB (P : Program) (K : Frag) (cda : Addr) : Bool := match K.lookup cda with
  | some ⟨_, _, .fields vs, _⟩ => (match (vs[2]? : Option Value) with
    | some (.str file _) => P.main.file == file
    | _ => false)
  | _ => false
def fnB (P : Program) (K : Frag) (C fI : Addr) (f : Str) : Bool := match K.lookup fI with
  | some ⟨_, _, .func ⟨_, q, params, .stmts body, scope, g, [(n, cc)], .none, .none, _, _, _, .ref cda, _, b⟩, _⟩ => g == mainGlobals && (b == builtinsNs && (n == "__class__" && (prmB f params && (bodyB f body && (scB f scope && (codeIn K (.ref cda) q && (codeB P K cda && cellB K cc C)))))))
  | _ => false
def x1B (P : Program) (K : Frag) (C fI : Addr) (f : Str) : Bool := xtB P K C fI && (fnB P K C fI f && (!(f == ("self" : Str)) && (!(f == ("__debug__" : Str)) && He.eqO (findIn K (.ref C) f) (some none))))
theorem body_of {f : Str} {b : List Stmt} (h : bodyB f b = true) : ∃ t k p0 p1 p2 p3 p4 p5 q1 q2 q3 q4, b = [sup t k p0 p1 p2 p3 p4 p5, put f q1 q2 q3 q4] ∧ (p2.endLine == p4.line) = true := by
  unfold bodyB at h
  split at h
  · simp only [Bool.and_eq_true, beq_iff_eq] at h
    obtain ⟨h1, h2, h3, h4, h5, h6⟩ := h
    subst h1 h2 h4 h5 h6
    exact ⟨_, _, _, _, _, _, _, _, _, _, _, _, rfl, by simpa using h3⟩
  · cases h
theorem prm_of {f : Str} {b : Arguments} (h : prmB f b = true) : ∃ p q, b = prm [(f, q)] p := by
  unfold prmB at h
  split at h
  · simp only [Bool.and_eq_true, beq_iff_eq] at h
    obtain ⟨h1, h2⟩ := h
    subst h1 h2
    exact ⟨_, _, rfl⟩
  · cases h
theorem x1_of {P : Program} {K : Frag} {C fI : Addr} {f : Str} (h : x1B P K C fI f = true) : XTxt P K C fI ∧ X1 P K C fI f := by
  unfold x1B at h
  simp only [Bool.and_eq_true, Bool.not_eq_true'] at h
  obtain ⟨h1, h2, h3, h4, h5⟩ := h
  refine ⟨xt_of h1, ?_, by simpa using h3, h4, He.eqO_ok h5⟩
  unfold fnB at h2
  split at h2
  · rename_i lk
    simp only [Bool.and_eq_true, beq_iff_eq] at h2
    obtain ⟨g1, g2, g3, g4, g5, g6, g7, g8, g9⟩ := h2
    subst g1 g2 g3
    obtain ⟨t, k, p0, p1, p2, p3, p4, p5, q1, q2, q3, q4, rfl, hl⟩ := body_of g5
    obtain ⟨pp, pf, rfl⟩ := prm_of g4
    unfold scB at g6
    simp only [Bool.and_eq_true, beq_iff_eq, Bool.not_eq_true', decide_eq_true_eq, List.all_eq_true, bne_iff_ne] at g6
    obtain ⟨a1, a2, a3, a4, a5, a6, a7, a8⟩ := g6
    refine ⟨_, _, _, _, _, t, k, p0, p1, p2, p3, p4, p5, q1, q2, q3, q4, pp, pf, ⟨⟨_, _, _, _, _, _, _, lk⟩, g7, ?_, ?_, fun x hx => ?_, a2, a3, a4, a5, a6, a7⟩, hl, a8⟩
    · unfold codeB at g8
      split at g8
      · rename_i lc
        split at g8
        · rename_i hv
          exact ⟨_, _, _, _, _, _, lc, hv, g8⟩
        · cases g8
      · cases g8
    · unfold cellB at g9
      split at g9
      · rename_i lc
        obtain rfl := beq_iff_eq.mp g9
        exact ⟨_, _, _, lc⟩
      · cases g9
    · exact a1 x hx
  · cases h2
end DX
namespace L2
open PySem PySem.Spec PyProof.Rows
theorem relO_one {f : Str} {v : V} {v' : Value} (r : RelV v v') (g : Str) : RelO (List.lookup g [(f, v)]) (if g = f then some v' else none) := by
  by_cases hw : g = f
  · subst hw
    rw [if_pos rfl]
    have q : List.lookup g [(g, v)] = some v := by simp [List.lookup]
    rw [q]
    exact r
  · rw [if_neg hw]
    have qw : (g == f) = false := by simpa using hw
    have q2 : List.lookup g [(f, v)] = none := by simp [List.lookup, qw]
    rw [q2]
    trivial
section
variable {X : Cx} {C fI : Addr}
theorem Inv.spX {pins : List (Addr × Obj)} {σ : St} {H : Hp} {s : Shared} (I : Inv X pins σ H s) (hs : X.mg "super" = none) : DX.Sp X.mg s.heap := by
  obtain ⟨mb, h1, h2⟩ := I.mod.blt
  exact ⟨I.mod.glob.keeps I.bk, ⟨mb, h1.keeps I.bk, h2⟩, hs⟩
/-- C(e), one field -/
def tMk1 (C : Addr) (f : Str) (ta : TA) : St → Hp → XK → Prop := fun σ H Q => ta σ H fun vs H1 => ∃ v, vs = [v] ∧ ∀ d, H1 d = none → Q (.ref C) (some d) (upd H1 d (.xd [(f, v)]))
theorem pmk_1 {c f : Str} {e : Expr} {es : List Expr} {ta : TA} {p pos : Pos} {k : Nat} (T : DX.XTxt X.prog X.K C fI) (G : DX.X1 X.prog X.K C fI f) (hs : X.mg "super" = none) (hm : X.mg c = some (.ref C)) (hr : Room k X.A) (ha : PA X (e :: es) ta) (hg : Gl X c)
    (hdb : (c == ("__debug__" : Str)) = false) (he : starEach (e :: es) X.env = (false, eval e X.env) :: starEach es X.env) (hpl : (backTo pos (starEach es X.env)).any (·.1) = false) :
    PMk X (.Call (.Name c p) (e :: es) [] pos) (tMk1 C f ta) := by
  intro pins s σ H Q I h
  refine wpAny_Call_Name_kw (ld_glob I hg hm ?_ hdb)
  refine PySem.W.callWith_K (h₀ := X.base) I.ok.mod.kin T.kC (thn (ha.run pos pins s σ H _ I h) fun us s1 hh => ?_) he hpl
  obtain ⟨vs, H1, I1, r1, v, ev, q1⟩ := hh
  subst ev
  refine ⟨I1.kIn, ?_⟩
  cases r1 with
  | cons rv rn =>
    rename_i v' us'
    cases rn
    show wpAny _ _ (call (.ref C) [v']) _ _ _
    have hlim := I1.nolimit
    have sp := I1.spX hs
    obtain ⟨hp, g, dr, tk, os⟩ := s1
    refine wpAny_call (DX.made (mg := X.mg) (m := fun y => if y = f then some v' else none) T (DX.one_size v') I1.kIn (fun A R x t0 s hx hnx X sp hlim hroom hq => DX.init1 T G X sp hlim hx hnx hroom hq) sp hlim (by have := hr.dp; omega) fun h' tk' e d M => ?_)
    show MkP X pins σ Q (.ref e) ⟨h', g, dr, tk', os⟩
    obtain ⟨oe, fv, hoe, hc, hd, hdat, h1⟩ := M.obj
    have hns := M.ns
    obtain ⟨G', g1, g2⟩ := restrict h' fun b => decide (b ≠ e)
    have gk : ∀ b, b ≠ e → G'.get? b = h'.get? b := fun b hb => g1 b (decide_eq_true hb)
    have ge : G'.get? e = none := g2 e (by simp)
    have old : ∀ b o, hp.get? b = some o → G'.get? b = some o := fun b o q => (gk b (Nat.ne_of_lt (Nat.lt_of_lt_of_le (Heap.lt_size q) M.new))).trans (M.keep b o q)
    have ob : ObjOk X.prog X.w (upd H1 d (.xd [(f, v)])) G' d (.xd [(f, v)]) :=
      ⟨_, hns.at (fun o q => (gk d M.dne).trans q), fun g => relO_one rv g⟩
    have J : Inv X pins σ (upd H1 d (.xd [(f, v)])) ⟨G', g, dr, tk', os⟩ := I1.laid (t' := tk') old M.dbig ob
    refine ⟨e, oe, fv, ⟨G', g, dr, tk', os⟩, _, .ref C, some d, rfl, J, fun b o q => ?_, ge, hoe, ⟨hc, hd⟩, hdat, h1, ?_, rfl, I1.bare, raises_own T.exC T.tyC, q1 d (I1.hok.fresh M.dbig)⟩
    · by_cases hb : b = e
      · have q' : G'.get? b = some o := q
        rw [hb, ge] at q'; cases q'
      · exact (gk b hb).symm.trans q
    · rw [upd_ne (Ne.symm M.dne)]
      exact I1.hok.fresh M.new
end
end L2

namespace DL
open PySem PySem.Spec PyProof.Rows L2

section
variable {K : PySem.W.Frag} {D : Addr}
open PySem.W in
theorem exc_cls {prog : Program} {w : World} {A : Around} {E : Value → Shared → Prop} {Q : Option Value → Shared → Prop} {s : Shared} {x : Addr} {ox : Obj} {od : Option Obj} (C : ExcC K D) (X : K.In s.heap) (I : InstAt s.heap x ox D od)
    (k : Q (some (.ref D)) { s with toks := s.toks + 1 }) : wpAny (model prog w) A (getAttr? (.ref x) "__class__") Q E s := by
  obtain ⟨cd, hc, _⟩ := any_some C.hd
  have hf : findObj K D od "__class__" = some (.bind (.builtin "getset_descriptor.__get__") (.builtin "object.__class__")) := by
    unfold findObj
    simp [hc, C.ha, C.hn, C.ht]
  have ne : (Value.builtin "BaseException.__getattribute__" == Value.builtin "object.__getattribute__") = false := by decide +kernel
  have t0 := I.type (M := model prog w)
  have isB : Looks (model prog w) s.heap (isInstance (.ref x) (.type "BaseException")) true := t0.andThen (looks_subIn X C.hs)
  have bnd := PySem.F.excAttr_ValueError.ga.bind (.ref x)
  obtain ⟨hp, gs, dr, tk, os⟩ := s
  unfold getAttr? getAttrBy? getAttrBy
  refine wpAny_bind (wpAny_mkText (wpAny_bind (wpAny_attempt (wpAny_holding (wpAny_bind (t0.at (wpAny_bind ((looks_findIn X C.hg).at ?_))))))))
  simp only [ne, Bool.and_false, Bool.false_eq_true, if_false]
  unfold getAttrByItsOwn hookBefore
  refine wpAny_bind ?_
  rw [if_pos (show onTheHeap (Value.ref D) = true from rfl)]
  refine (looks_findIn X C.hk).at (wpAny_bind (wpAny_attempt (wpAny_holding ?_)))
  unfold callGetattribute
  rw [if_neg (by decide)]
  unfold boundAndCalled
  rw [bnd]
  refine wpAny_bind (wpAny_pure (wpAny_call (codeAny_call_builtin PySem.F.excAttr_ValueError.ga.plain PySem.F.entry_bexc_ga ?_)))
  refine @check_slot (model prog w) _ _ ⟨hp, gs, dr, tk + 1, os⟩ "BaseException.__getattribute__" "BaseException" "__getattribute__" (.ref x) [.str "__class__" tk] [] _ (by decide +kernel) (by decide +kernel) isB (PySem.F.args_bexc_ga _ _) ?_
  unfold Builtin.«object.__getattribute__»
  refine wpAny_bind (wpAny_of_eq (a := ((Value.ref x : Value), [Value.str "__class__" tk])) (by first | rfl | (simp only [slotArgs]; rfl)) ?_)
  refine wpAny_bind (wpAny_pure (wpAny_bind (t0.at (wpAny_bind ((looks_find X I hf).at ?_)))))
  refine wpAny_bind (wpAny_holding (wpAny_call (class_get (s := ⟨hp, gs, dr, tk + 1, os⟩) (ox := ox) (od := od) X I C.hm ?_)))
  refine wpAny_pure ?_
  show wpAny _ _ (handedOut (.ref D)) _ _ _
  rw [handedOut_of (v := .ref D) rfl]
  exact wpAny_pure (wpAny_bind (wpAny_pure (wpAny_pure k)))
open PySem.W in
theorem kitx_exc {x : Addr} {ox : Obj} {od : Option Obj} (C : ExcC K D) : KitX K (.ref x) (.ref D) (fun h => InstAt h x ox D od) := by
  obtain ⟨cd, hc, _⟩ := any_some C.hd
  have hc0 := hc
  refine ⟨fun _ _ _ I => I.type, fun _ h X _ => ?_, fun h tp dd its n sl X htp => ?_, fun X I k => ?_⟩
  · unfold clsIn at hc
    split at hc
    · rename_i ho
      exact fun A' Q' E' s' k q => by unfold isType loadHead; exact wpAny_bind (wpAny_loadPart (k _ _ (X _ _ ho)) (wpAny_pure q))
    · cases hc
  · refine Bool.eq_false_iff.mpr fun q => ?_
    obtain rfl : D = tp := Value.ref.inj (beq_iff_eq.mp q)
    unfold clsIn at hc
    split at hc
    · rename_i ho
      have z := (X _ _ ho).symm.trans htp
      cases z
    · cases hc
  · exact exc_cls C X I k
end

section
variable {X : Cx} {W : WX} {pn : List (Addr × Obj)}
theorem inst_exc {pins : List (Addr × Obj)} {σ : L2.St} {H F : Hp} {s : Shared} {c : Str} {fs : List (Str × D)} {a : Addr} {oe : Obj} {d : Option Addr} (I : Inv X pins σ H s) (hp : (a, oe) ∈ X.pn) (hf : ∃ us, oe.data = .fields us) (hz : Zc (.ref (He.ga X.K c)) d oe) (xr : XdR X.K F d fs) (le : Le F H) :
    ∃ od, PySem.W.InstAt s.heap a oe (He.ga X.K c) od ∧ ∀ dd vs, d = some dd → F dd = some (.xd vs) → ∃ (mA : Str → Option Value) (o : Obj), od = some o ∧ (∀ f, RelO (vs.lookup f) (mA f)) ∧ ∀ n, PySem.W.lookIn n o = some (mA n) := by
  obtain ⟨ha, _⟩ := I.pin (a, oe) (List.mem_append_left _ hp)
  obtain ⟨us, hd⟩ := hf
  have nc : PySem.W.notCls oe = true := by unfold PySem.W.notCls; rw [hd]
  rcases xr with ⟨_, rfl⟩ | ⟨dd, vs, rfl, ed, _⟩
  · exact ⟨none, ⟨ha, hz.1, nc, by rw [hz.2]; trivial⟩, fun _ _ e => nomatch e⟩
  · obtain ⟨mA, hns, hr⟩ := (show ObjOk X.prog X.w H s.heap dd (.xd vs) from I.hok dd _ (le.ex _ _ rfl ed))
    obtain ⟨od, ho, hl⟩ := lookIn_ns hns
    refine ⟨some od, ⟨ha, hz.1, nc, by rw [hz.2]; exact ho⟩, fun dd' vs' e e' => ?_⟩
    cases e
    rw [ed] at e'
    cases e'
    exact ⟨mA, od, rfl, hr, hl⟩
theorem d_xfld {e : Expr} {f : Str} {cs : List Str} {pos : Pos} {a : E} (hp : ∀ q ∈ pn, q ∈ X.pn) (h : PE X e (tE X.K pn W a)) (T : ∀ c ∈ cs, XfC X.K (He.ga X.K c) ∧ PySem.W.findIn X.K (.ref (He.ga X.K c)) f = some none)
    (hb : attributeBase e f X.env (eval e X.env) = eval e X.env) : PE X (.Attribute e f pos) (tE X.K pn W (.xfld a f cs)) := by
  refine ⟨fun pins s σ H Q I q => ?_⟩
  obtain ⟨F, α, ρ, μ, hd, sl, w⟩ := q
  refine attr_of hb (thn (h.run pins s σ H (fun v H1 => ∃ F1 α1 c fs d, Le F1 H1 ∧ RvR X.K pn F1 α1 (.exc c fs) v ∧ c ∈ cs ∧ fs.lookup f = some d ∧ ∀ v', R X.K F1 v' d → Q v' H1) I ?_) fun u s1 ⟨x, H1, I1, rx, F1, α1, c, fs, d, le, rv, hc, el, q⟩ => ?_)
  · refine one1 hd sl w fun r1 μ1 v1 F1 α1 H1 g1 h1 rv1 p => ?_
    cases r1 with
    | exc c fs =>
      obtain ⟨hc, p⟩ := p
      obtain ⟨d, el, p⟩ := opt.of p
      exact ⟨F1, α1, c, fs, d, h1.le, rv1, hc, el, fun v' r => p v' F1 α1 H1 g1 h1 r⟩
    | _ => exact p.elim
  · obtain ⟨aa, oe, dd, rfl, hm, hf, hz, xr⟩ := rv
    obtain rfl : u = Value.ref aa := rx
    obtain ⟨T1, T2⟩ := T c hc
    obtain ⟨od, J, look⟩ := inst_exc I1 (hp _ hm) hf hz xr le
    rcases xr with ⟨rfl, _⟩ | ⟨d1, vs, rfl, ed, rf⟩
    · cases el
    · obtain ⟨v', e2, r2⟩ := rf.lookup el
      obtain ⟨mA, o, rfl, hr, hl⟩ := look _ _ rfl ed
      obtain ⟨u, hu, ru⟩ := RelO.some_of (v := v') (o := mA f) (by rw [← e2]; exact hr f)
      exact HandSPX.exc_get I1.kIn J T1.ga T1.gg T1.exC (PySem.W.findObj_own T1.hdC T2 rfl (by rw [hl, hu])) (handed_of ru) ⟨v', H1, I1.tok _, ru, q _ r2⟩
theorem d_xisi {e ex : Expr} {p pos : Pos} {x : Str} {tab : List (Str × Bool)} {cv : V} {cu : Value} {a : E} (hp : ∀ q ∈ pn, q ∈ X.pn) (hg : Gl X "isinstance") (hm : X.mg "isinstance" = none) (h : PE X e (tE X.K pn W a)) (hx : PE X ex (tC cv)) (hu : ∀ u, RelV cv u → u = cu)
    (T : ∀ q ∈ tab, ExcC X.K (He.ga X.K q.1) ∧ PySem.W.kitOne X.K (.ref (He.ga X.K q.1)) cu = some q.2) (he : starEach [e, ex] X.env = (false, eval e X.env) :: starEach [ex] X.env) (he2 : starEach [ex] X.env = (false, eval ex X.env) :: starEach [] X.env) :
    PE X (.Call (.Name "isinstance" p) [e, ex] [] pos) (tE X.K pn W (.xisi a x tab)) := by
  have key : CallR X (.builtin "isinstance") (fun xs H Q => ∃ v F α c fs b, xs = [v, cv] ∧ Le F H ∧ RvR X.K pn F α (.exc c fs) v ∧ tab.lookup c = some b ∧ Q (.bl b) H) := by
    intro pins s σ H xs us Q I rr hh
    obtain ⟨v, F, α, c, fs, b, rfl, le, rv, el, q⟩ := hh
    obtain ⟨u1, u2, rfl, r1, r2⟩ := vals2 rr
    obtain rfl := hu _ r2
    obtain ⟨aa, oe, dd, rfl, hmm, hf, hz, xr⟩ := rv
    obtain rfl : u1 = Value.ref aa := r1
    have mem : (c, b) ∈ tab := by
      clear T
      induction tab with
      | nil => cases el
      | cons t tab ih =>
        rw [List.lookup_cons] at el
        cases z : c == t.1 with
        | true =>
          rw [z] at el
          cases el
          obtain rfl := beq_iff_eq.mp z
          exact List.mem_cons_self
        | false => rw [z] at el; exact List.mem_cons_of_mem _ (ih el)
    obtain ⟨T1, T2⟩ := T _ mem
    obtain ⟨od, J, _⟩ := inst_exc I (hp _ hmm) hf hz xr le
    exact PySem.W.kia_one (kitx_exc T1) I.kIn J T2 (fun z => nomatch z) fun tk => ⟨.bl b, H, I.tok tk, rfl, q⟩
  have hpl : (backTo pos (starEach [ex] X.env)).any (·.1) = false := by rw [he2]; rfl
  refine PE.imp (pe_callB key hg hm PyProof.Rows.boot_isinstance (pa_cons h (pa_cons hx pa_nil he2) he) (by decide) (by decide) he hpl) ?_
  rintro σ H Q ⟨F, α, ρ, μ, hd, sl, w⟩
  refine one1 hd sl w fun r1 μ1 v1 F1 α1 H1 g1 h1 rv1 p => ?_
  cases r1 with
  | exc c fs =>
    obtain ⟨b, el, p⟩ := opt.of p
    exact ⟨v1, F1, α1, c, fs, b, rfl, h1.le, rv1, el, p _ F1 α1 H1 g1 h1 (R.bl b)⟩
  | _ => exact p.elim
theorem d_lenO {k : Nat} {c : Str} {fa : Addr} {S : Spc} {p pos : Pos} {o : Expr} {a : E} (hg : Gl X "len") (hm0 : X.mg "len" = none) (ho : PE X o (tE X.K pn W a)) (hm : Meth X.K (He.ga X.K c) "__len__" fa) (C : FnR X.prog X.w X.K X.mg X.base (CX X.prog X.w) k fa (lift X.K S)) (hr : Room (k + 1) X.A) (tk : Takes X W)
    (he : starEach [o] X.env = (false, eval o X.env) :: starEach [] X.env) : PE X (.Call (.Name "len" p) [o] [] pos) (tE X.K pn W (.lenO a c S)) := by
  refine ⟨fun pins s σ H Q I q => ?_⟩
  obtain ⟨F, α, ρ, μ, hd, sl, w⟩ := q
  refine wpAny_Call_Name_kw (ld_blt I hg hm0 PySem.boot_len ?_)
  refine PyProof.Rows.callWith_builtin1 (thn ((pa_cons ho pa_nil he).run pos pins s σ H (fun vs H1 => ∃ b dx fs, vs = [.ref b] ∧ H1 b = some (.ins (He.ga X.K c) dx fs) ∧ lift X.K S [.ref b] H1 (fun v H2 => ∃ n : Int, v = .int n ∧ 0 ≤ n ∧ n < 9223372036854775808 ∧ Q (.int n) H2) (fun cls d H' => W cls d σ H')) I ?_)
    fun us s1 ⟨vs, H1, I1, r1, b, dx, fs, ev, eb, q⟩ => ?_) he rfl
  · refine one1 hd sl w fun r1 μ1 v1 F1 α1 H1 g1 h1 rv1 pp => ?_
    obtain ⟨b, dx, fs, rfl, eb, _, t⟩ := meth_in (as := .nil) (Q := fun v H2 => ∃ n : Int, v = .int n ∧ 0 ≤ n ∧ n < 9223372036854775808 ∧ Q (.int n) H2) g1 h1 sl rv1 ⟨pp.1, S.mono _ _ _ _ _ _ pp.2 (fun rv m z v F' α' H' g h r => by
      split at z
      · rename_i n
        cases r
        exact ⟨n, rfl, z.1, z.2.1, z.2.2 _ F' α' H' g h (R.int n)⟩
      · exact z.elim) fun _ _ z => z⟩
    obtain ⟨F2, α2, ρ2, μ2, h2, sl2, w2⟩ := t
    exact ⟨b, dx, fs, rfl, eb, w2 [] F2 α2 H1 .refl h2 trivial⟩
  · subst ev
    cases r1 with
    | cons rb rn =>
      cases rn
      cases rb
      obtain ⟨mA, O, _⟩ := ins_get I1.hok eb
      obtain ⟨od, J, _⟩ := O.look
      obtain ⟨m, fr⟩ := I1.fr
      refine PySem.W.len_K fr I1.ok.mod.kin J hm.at_ hm.fn ?_
      refine wpAny_call (codeAny_mono (C X.A.in1 X.stack s1 H1 [.ref b] [.ref b] _ _ hr.in1 I1.env0.in1 (.cons rfl .nil) q) fun r s' hq => ?_)
      cases r with
      | error e => exact tk e s' (XE.of_call I1 (fun _ _ _ h => h) hq)
      | ok fl =>
        cases fl with
        | ret u =>
          obtain ⟨v, H', I', rv, n, rfl, z0, z1, q⟩ := I1.after hq
          obtain ⟨t, rfl⟩ := rv
          exact ⟨⟨z0, z1⟩, .int n, H', I'.tok _, ⟨_, rfl⟩, q⟩
        | next => exact False.elim hq
        | brk => exact False.elim hq
        | cont => exact False.elim hq
end
end DL

namespace DL
open PySem PySem.Spec PyProof.Rows L2

section
variable {K : PySem.W.Frag} {pn : List (Addr × Obj)} {F : Hp} {α : Al} {ρ : Rho} {σ : L2.St} {i : Nat}
theorem Slots.widen (h : Slots K [] F α ρ σ) : Slots K pn F α ρ σ := ⟨h.1, fun i rv e => let ⟨v, h1, h2⟩ := h.2 i rv e; ⟨v, h1, h2.wide⟩⟩
theorem Slots.drop (h : Slots K pn F α ρ σ) : Slots K pn F α (ρ.set i none) (σ.set i none) := by
  refine ⟨by simp [h.1], fun j rv e => ?_⟩
  rw [List.getElem?_set] at e
  split at e
  · split at e <;> cases e
  · rename_i q
    rw [List.getElem?_set_ne q]
    exact h.2 j rv e
theorem Slots.noEx (h : Slots K pn F α ρ σ) : Slots K [] F α (DL.noEx ρ) σ := by
  refine ⟨by unfold DL.noEx; rw [List.length_map]; exact h.1, fun j rv e => ?_⟩
  unfold DL.noEx at e
  rw [List.getElem?_map] at e
  obtain ⟨o, e1, e2⟩ := Option.map_eq_some_iff.mp e
  split at e2
  · cases e2
  · rename_i nx
    subst e2
    obtain ⟨v, h1, h2⟩ := h.2 j rv e1
    refine ⟨v, h1, ?_⟩
    cases rv with
    | exc c fs => exact absurd rfl (nx c fs)
    | since _ _ _ => exact h2
    | _ => exact h2.bare rfl
end
section
variable {X : Cx} {W : WX}
theorem tab_mem {tab : List (Str × Bool)} {c : Str} {b : Bool} (el : tab.lookup c = some b) : (c, b) ∈ tab := by
  induction tab with
  | nil => cases el
  | cons t tab ih =>
    rw [List.lookup_cons] at el
    cases z : c == t.1 with
    | true =>
      rw [z] at el
      cases el
      obtain rfl := beq_iff_eq.mp z
      exact List.mem_cons_self
    | false => rw [z] at el; exact List.mem_cons_of_mem _ (ih el)
theorem s_tryx {x n : Str} {c : Value} {i : Nat} {body suite : List Stmt} {b₀ : Stmt} {np pos pos' : Pos} {tab : List (Str × Bool)} {b h : S} (hs : X.stack = X.env :: X.outer) (hf : X.env.frame = some X.env.locals) (hN : X.N.Nodup) (hi : X.N[i]? = some n) (hln : X.env.kindOf n = some .local)
    (hc : Names X x c) (tk : Takes X W) (T : ∀ q ∈ tab, PySem.W.exmOne X.K (.ref (He.ga X.K q.1)) c = some q.2)
    (hb : ∀ (W' : WX) (pn' : List (Addr × Obj)) (xe : Value → Shared → Prop), Takes (X.tr pn' xe) W' → PassesOwn (model X.prog X.w) X.A X.env xe → PSs (X.tr pn' xe) body (tS X.K [] W' b))
    (hsu : ∀ (a : Addr) (oe : Obj) (pn' : List (Addr × Obj)), PSs (X.suite a ((a, oe) :: pn')) (b₀ :: suite) (tS X.K [(a, oe)] noX h)) :
    PS X (.Try body [.ExceptHandler (some (.Name x np)) (some n) (b₀ :: suite) pos'] [] [] pos) (tS X.K [] W (.tryx b x tab i h)) := by
  refine PS.imp (ps_try_as (tb := fun W' => tS X.K [] W' b) (ts := fun a cls d D σ H => ∀ oe, Zc cls d oe → (∃ vs, oe.data = .fields vs) → tS X.K [(a, oe)] noX h D σ H) hs hf hN hi hln hc tk hb
    (fun a oe cls d pn' hz hff => PSs.imp (hsu a oe pn') fun D σ H q => q oe hz hff)) ?_
  rintro D σ H ⟨F, α, ρ, μ, hd, sl, w⟩
  refine ⟨F, α, ρ, μ, hd, sl, wpS.imp b w ⟨fun _ _ z => z, fun _ _ z => z, fun _ _ z => z, fun _ _ z => z, fun e ρ' μ' w cls d F' α' H' σ' g h' sl' r => ?_⟩⟩
  obtain ⟨z, el, w⟩ := opt.of w
  obtain ⟨rc, rx⟩ := r
  refine ⟨z, by rw [rc]; exact T _ (tab_mem el), fun hz a na oe zc hff => ?_, fun hz => ?_⟩
  · subst hz
    rw [if_pos rfl] at w
    rw [rc] at zc
    refine ⟨F', α', _, μ', h', (sl'.widen (pn := [(a, oe)])).set (rv := .exc e.c e.fs) ⟨a, oe, d, rfl, List.mem_cons_self, hff, zc, rx⟩, wpS.imp h w ⟨?_, ?_, ?_, ?_, fun _ _ _ z => z.elim⟩⟩
    · exact fun ρ2 μ2 q F2 α2 H2 σ2 g2 h2 sl2 => q F2 α2 H2 _ (g.trans g2) h2 sl2.drop.noEx
    · exact fun r2 μ2 q v F2 α2 H2 g2 h2 rv => q.2 v F2 α2 H2 (g.trans g2) h2 (rv.bare q.1)
    · exact fun ρ2 μ2 q F2 α2 H2 σ2 g2 h2 sl2 => q F2 α2 H2 _ (g.trans g2) h2 sl2.drop.noEx
    · exact fun ρ2 μ2 q F2 α2 H2 σ2 g2 h2 sl2 => q F2 α2 H2 _ (g.trans g2) h2 sl2.drop.noEx
  · subst hz
    rw [if_neg Bool.false_ne_true] at w
    exact w cls d F' α' H' σ' g h' sl' ⟨rc, rx⟩
theorem s_setLc {i : Nat} {y : Str} {py spos : Pos} {elt tg iter : Expr} {ifs : List Expr} {scope : Scope} {own : List (Str × Nat)} {pos : Pos} {el : E} {t : Tg} {it : It} {c : T} (hc : X.calm = true) (hN : X.N.Nodup) (hy : X.N[i]? = some y) (hyl : X.env.scope.names.lookup y = some .local)
    (hsw : swapsWith (.ListComp elt [⟨tg, iter, ifs, 0⟩] scope pos) (some (.Name y py)) spos.line X.env = pure true) (hi : PI X tg iter (tI X.K [] W it)) (ok : BlkOk X.N X.env.scope scope own) (how : own.map (·.2) = t.slots)
    (hg : ∀ (s : Shared) (H : Hp) (C : Addr) (cl : List (Str × Addr)) (fp : List Addr), PG (X.blk s H scope (compEnvC scope cl C X.env) fp) tg (gOf X.K t)) (ht : ∀ (s : Shared) (H : Hp) (C : Addr) (cl : List (Str × Addr)) (fp : List Addr), PTs (X.blk s H scope (compEnvC scope cl C X.env) fp) ifs (tT X.K [] noX c))
    (he : ∀ (s : Shared) (H : Hp) (C : Addr) (cl : List (Str × Addr)) (fp : List Addr), PE (X.blk s H scope (compEnvC scope cl C X.env) fp) elt (tE X.K [] noX el)) (hs : ∀ x, foldedSetIterable iter X.env x = pure x) :
    PS X (.Assign [.Name y py] (.ListComp elt [⟨tg, iter, ifs, 0⟩] scope pos) spos) (tS X.K [] W (.set i (.lc el t it c))) ∧ PS X (.Assign [.Name y py] (.ListComp elt [⟨tg, iter, ifs, 0⟩] scope pos) spos) (tS X.K [] W (.set i (.lcO el t it c))) := by
  constructor
  · refine PS.imp (ps_setLc hc hN hy hyl hsw hi ok hg ht he hs) ?_
    rintro D σ H ⟨F, α, ρ, μ, hd, sl, w⟩
    have w' : wpE (.lc el t it c) ρ μ (kE X.K [] F α fun x H1 => D.nx (σ.set i (some x)) H1) (kX X.K F α σ W) :=
      wpE.imp (.lc el t it c) w (fun rv μ1 q v F1 α1 H1 g1 h1 r => q F1 α1 H1 _ g1 h1 ((sl.mono g1).set r)) fun _ _ z => exE sl z
    exact lc_main (Q := fun x H1 => D.nx (σ.set i (some x)) H1) how hd sl w' lc_end
  · refine PS.imp (ps_setLc hc hN hy hyl hsw hi ok hg ht he hs) ?_
    rintro D σ H ⟨F, α, ρ, μ, hd, sl, w⟩
    have w' : wpE (.lcO el t it c) ρ μ (kE X.K [] F α fun x H1 => D.nx (σ.set i (some x)) H1) (kX X.K F α σ W) :=
      wpE.imp (.lcO el t it c) w (fun rv μ1 q v F1 α1 H1 g1 h1 r => q F1 α1 H1 _ g1 h1 ((sl.mono g1).set r)) fun _ _ z => exE sl z
    exact lc_main (Q := fun x H1 => D.nx (σ.set i (some x)) H1) how hd sl w' lcO_end
end
end DL

namespace DL
open PySem PySem.Spec PyProof.Rows L2

/-- what an except clause with the slot j leaves of what is wanted -/
def endsOff (D : Ends) (j : Nat) : Ends := { nx := fun t G => D.nx (t.set j none) G, rt := D.rt, bk := fun t G => D.bk (t.set j none) G, ct := fun t G => D.ct (t.set j none) G }
abbrev Clause := Value × Nat × (Addr → Value → Option Addr → TS)
def wClauses (K : PySem.W.Frag) (out : WX) (D : Ends) : List Clause → WX
  | [] => out
  | q :: rest => fun cls d t G => ∃ z, PySem.W.exmOne K cls q.1 = some z ∧ (z = true → ∀ xa, G xa = none → q.2.2 xa cls d (endsOff D q.2.1) (t.set q.2.1 (some (.ref xa))) G) ∧ (z = false → wClauses K out D rest cls d t G)
inductive ClausesOk (X : Cx) : List ExceptHandler → List Clause → Prop
  | nil : ClausesOk X [] []
  | cons {x nm : Str} {q : Clause} {s0 : Stmt} {ss : List Stmt} {np hp : Pos} {hds : List ExceptHandler} {l : List Clause} (hc : Names X x q.1) (hi : X.N[q.2.1]? = some nm) (hk : X.env.kindOf nm = some .local)
      (run : ∀ (xa : Addr) (ob : Obj) (cls : Value) (d : Option Addr) (more : List (Addr × Obj)), Zc cls d ob → (∃ us, ob.data = .fields us) → PSs (X.suite xa ((xa, ob) :: more)) (s0 :: ss) (q.2.2 xa cls d)) (rest : ClausesOk X hds l) :
      ClausesOk X (.ExceptHandler (some (.Name x np)) (some nm) (s0 :: ss) hp :: hds) (q :: l)
section
variable {X : Cx} {body : List Stmt} {h0 : ExceptHandler} {hds : List ExceptHandler} {l : List Clause} {pos : Pos} {tb : WX → TS} {out : WX}
theorem ps_clauses (stk : X.stack = X.env :: X.outer) (own : X.env.frame = some X.env.locals) (nd : X.N.Nodup) (tk : Takes X out)
    (hb : ∀ (W : WX) (more : List (Addr × Obj)) (xe : Value → Shared → Prop), Takes (X.tr more xe) W → PassesOwn (model X.prog X.w) X.A X.env xe → PSs (X.tr more xe) body (tb W))
    (all : ClausesOk X (h0 :: hds) l) : PS X (.Try body (h0 :: hds) [] [] pos) (fun D t G => tb (wClauses X.K out D l) D t G) := by
  refine ⟨fun pins s0 t0 G0 D I0 q0 => ?_⟩
  have ok0 := I0.ok
  have frm : X.A.frames = some (X.env :: X.outer) := by rw [ok0.frames, stk]
  refine wpAny_Try_except ?_
  refine wpAny_mono ((hb (wClauses X.K out D l) (X.pn ++ pins) (fun ev s1 => wpAny (model X.prog X.w) X.A (noteFrame ev X.env) (fun _ s2 => wpAny (model X.prog X.w) X.A (setFlight ev none) (fun _ s3 =>
    wpAny (model X.prog X.w) X.A (handleBy ev X.env (h0 :: hds)) (SP X pins D) X.xe s3) X.xe s2) X.xe s1) (fun uu se fly => ?_) PassesOwn.looking).run [] s0 t0 G0 D (I0.toTry _) q0) (fun fl se end0 => ?_) (fun ev se he => he)
  · obtain ⟨xa, bh, si, pi, t1, G1, cls, d, rfl, J0, nbh, upb, sky, free, oss, agr, wish⟩ := fly
    have J1 : Inv X pins t1 G1 si := J0.ofTry ok0
    have sky1 : Sky bh (X.env :: X.outer) xa (Zc cls d) X.env.locals se.heap := by rw [← stk]; exact sky
    show wpAny (model X.prog X.w) X.A (noteFrame (.ref xa) X.env) _ _ _
    refine Sky.land Zc.steady frm own sky1 fun hh3 land3 upb3 => ?_
    have J3 : Inv X pins t1 G1 { se with heap := hh3 } := J1.landed nbh land3.1 (upb.trans upb3) oss agr
    obtain ⟨ob3, us3, get3, zc3, dat3⟩ := land3.there
    have notFrame : xa ∉ frs (X.env :: X.outer) := fun hm => by
      obtain ⟨_, ob', get', nf⟩ := land3.2.2.1.mem hm
      rw [get3] at get'
      cases get'
      exact nf _ dat3
    have notL : xa ≠ X.env.locals := fun z => notFrame (List.mem_filterMap.mpr ⟨X.env, List.mem_cons_self, by rw [own, z]⟩)
    have notF : xa ∉ X.fs := fun hm => by
      obtain ⟨en, hen, qf⟩ := List.mem_filterMap.mp hm
      exact notFrame (List.mem_filterMap.mpr ⟨en, List.mem_cons_of_mem _ hen, qf⟩)
    have T3 := J3.suite get3 dat3 free notL notF
    have walk : ∀ {hs' : List ExceptHandler} {l' : List Clause}, ClausesOk X hs' l' → wClauses X.K out D l' cls d t1 G1 → wpAny (model X.prog X.w) X.A (handleBy (.ref xa) X.env hs') (SP X pins D) X.xe { se with heap := hh3 } := by
      intro hs' l' ck
      induction ck with
      | nil =>
        intro wish
        refine wpAny_handleBy_nil ?_
        obtain ⟨_, _, _, obe, us, tr, _, _, gete, _, date, at1, _⟩ := id land3
        unfold PySem.passOn
        refine wpAny_bind (wpAny_field gete date at1 ?_)
        rw [if_neg (show ¬ ((Value.ref tr == Value.none) = true) from by simp)]
        have last : wpAny (model X.prog X.w) X.A (setFlight (.ref xa) X.env.frame) (fun _ s4 => wpAny (model X.prog X.w) X.A (throw (.ref xa) : Sem Flow) (SP X pins D) X.xe s4) X.xe { se with heap := hh3 } := by
          rw [own]
          refine HandSPX.setFlight_upZ land3 fun hh4 land4 upb4 => wpAny_throw (tk _ _ ?_)
          exact ⟨xa, bh, si, pins, t1, G1, cls, d, rfl, J1, nbh, (upb.trans upb3).trans upb4, .inr (.inr (by rw [stk]; exact land4)), free, oss, agr, wish⟩
        first
          | exact wpAny_bind (wpAny_pure (wpAny_bind last))
          | exact wpAny_bind last
      | @cons x nm cq s0 ss np hp hds2 l2 hc hi hk run rest ih =>
        intro wish
        obtain ⟨cv, j, ts⟩ := cq
        obtain ⟨z, ez, yes, no⟩ := wish
        refine wpAny_handleBy_cons (codeAny_handlers_test ?_) (by intro q; cases q)
        have kind : PySem.W.Looks (model X.prog X.w) hh3 (typeOf (.ref xa)) cls := fun A Q E s k q => wpAny_typeOf_ref (k _ _ get3) (by rw [zc3.1]; exact q)
        have match_ := PySem.W.exm_one (M := model X.prog X.w) (J3.kIn) kind ez
        have name : ∀ {Q E : Value → Shared → Prop}, Q cv { se with heap := hh3 } → wpAny (model X.prog X.w) (X.A.mark (some (.ref xa))) (eval (.Name x np) X.env) Q E { se with heap := hh3 } := fun {Q E} q => by
          obtain ⟨g1, g2, g3 | ⟨g3, g4, g5⟩⟩ := hc
          · exact ld_glob (X := X.suite xa ((xa, ob3) :: (X.pn ++ pins))) T3 g1 g3 q g2
          · exact ld_blt (X := X.suite xa ((xa, ob3) :: (X.pn ++ pins))) T3 g1 g3 g4 q g5 g2
        refine name (match_.here ?_)
        cases z with
        | false =>
          show wpAny _ X.A (handleBy (.ref xa) X.env hds2) _ _ _
          exact ih (no rfl)
        | true =>
          refine codeAny_handlers_suite_as ?_
          refine HandSPX.lands_againZ land3 fun hh4 land4 upb4 => ?_
          have J4 : Inv X pins t1 G1 { se with heap := hh4 } := J1.landed nbh land4.1 ((upb.trans upb3).trans upb4) oss agr
          obtain ⟨ob4, us4, get4, zc4, dat4⟩ := land4.there
          have T4 := J4.suite get4 dat4 free notL notF
          refine store_ok (X := X.suite xa ((xa, ob4) :: (X.pn ++ pins))) (v := .ref xa) T4 nd hi (.inl hk) rfl (fun s5 T5 => ?_) (.inr hk)
          refine wpAny_mono ((run xa ob4 cls d (X.pn ++ pins) zc4 ⟨_, dat4⟩).run [] s5 _ G1 _ T5 (yes rfl xa free)) (fun fl s6 end6 => ?_) (fun _ _ z => False.elim z)
          have away : ∀ {t6 : L2.St} {G6 : Hp} {Q : Shared → Prop}, Inv (X.suite xa ((xa, ob4) :: (X.pn ++ pins))) [] t6 G6 s6 → (∀ s7, Inv X pins (t6.set j none) G6 s7 → Q s7) →
              wpAny (model X.prog X.w) X.A (do bindName X.env nm .none; unbindBehindTheSuite X.env nm hp) (fun _ s7 => Q s7) X.xe s6 := fun {t6 G6 Q} T6 hq => gone_ok (T6.unsuite ok0) nd hi hk hq
          cases fl with
          | next => obtain ⟨t6, G6, T6, q6⟩ := end6; exact away T6 fun s7 J7 => ⟨_, _, J7, q6⟩
          | brk => obtain ⟨t6, G6, T6, q6⟩ := end6; exact away T6 fun s7 J7 => ⟨_, _, J7, q6⟩
          | cont => obtain ⟨t6, G6, T6, q6⟩ := end6; exact away T6 fun s7 J7 => ⟨_, _, J7, q6⟩
          | ret u => obtain ⟨v6, t6, G6, T6, r6, q6⟩ := end6; exact away T6 fun s7 J7 => ⟨_, _, _, J7, r6, q6⟩
    exact walk all wish
  · cases fl with
    | next => obtain ⟨t6, G6, T6, q6⟩ := end0; exact wpAny_execs_nil ⟨t6, G6, T6.ofTry ok0, q6⟩
    | brk => obtain ⟨t6, G6, T6, q6⟩ := end0; exact ⟨t6, G6, T6.ofTry ok0, q6⟩
    | cont => obtain ⟨t6, G6, T6, q6⟩ := end0; exact ⟨t6, G6, T6.ofTry ok0, q6⟩
    | ret u => obtain ⟨v6, t6, G6, T6, r6, q6⟩ := end0; exact ⟨v6, t6, G6, T6.ofTry ok0, r6, q6⟩
end
end DL

namespace DL
open PySem PySem.Spec PyProof.Rows L2

section
variable {K : PySem.W.Frag} {pn : List (Addr × Obj)} {F F' H : Hp} {α α' : Al} {μ : Mu} {Q : VK}
theorem kE.dic {ds : List (Key × D)} {vs : List (Key × V)} {p : Addr} (g : Go F F' α α') (h : kE K pn F α Q (.loc μ.length) (μ ++ [.dic ds])) (hd : Hold K F' H α' μ) (n : H p = none) (r : RK K F' vs ds) : Q (.ref p) (upd H p (.dK vs)) := by
  have nh : α'.hid p = none := by
    cases q : α'.hid p with
    | none => rfl
    | some ws => have := (hd.hd p ws q).1; rw [n] at this; cases this
  obtain ⟨h', g'⟩ := (hd.add (u := .dK vs) n).own (p := p) (o := .dic ds) (by rw [upd_same]; simp) (fun z => hd.al _ z n) nh ⟨hd.fr _ n, vs, upd_same, r⟩
  exact h _ _ _ _ (g.trans g') h' ⟨p, by rw [← hd.len]; simp, rfl⟩
end
section
variable {X : Cx} {W : WX} {pn : List (Addr × Obj)}
theorem d_bad {e : Expr} : PE X e (tE X.K pn W .bad) := ⟨fun pins s σ H Q I ⟨_, _, _, _, _, _, w⟩ => w.elim⟩
theorem dt_bad {e : Expr} : PT X e (tT X.K pn W (.v .bad)) := ⟨fun pins s σ H Q I ⟨_, _, _, _, _, _, w⟩ => w.elim⟩
theorem s_bad {e : Stmt} : PS X e (tS X.K pn W .bad) := ⟨fun pins s σ H D I ⟨_, _, _, _, _, _, w⟩ => w.elim⟩
theorem ss_bad {e : List Stmt} : PSs X e (tS X.K pn W .bad) := ⟨fun pins s σ H D I ⟨_, _, _, _, _, _, w⟩ => w.elim⟩
theorem d_dic0 {pos : Pos} : PE X (.Dict [] [] pos) (tE X.K pn W .dic0) := by
  refine PE.imp pe_dnewK ?_
  rintro σ H Q ⟨F, α, ρ, μ, h, sl, w⟩ p np
  exact kE.dic .refl w h np .nil
theorem d_dget (hu : X.A.units + 64 < cLine) {o e f : Expr} {apos cpos : Pos} {a k d : E} (ho : PE X o (tE X.K pn W a)) (he : PE X e (tE X.K pn W k)) (hf : PE X f (tE X.K pn W d)) (m : M2 X o "get" apos e f cpos) :
    PE X (.Call (.Attribute o "get" apos) [e, f] [] cpos) (tE X.K pn W (.dget a k d)) := by
  refine PE.imp (pe_dget2 (by omega) ho he hf m) ?_
  rintro σ H Q ⟨F, α, ρ, μ, h, sl, w⟩
  refine one1 h sl w fun r0 μ0 v0 F0 α0 H0 g0 h0 rv0 p => ?_
  obtain ⟨⟨kvs, ek⟩, p⟩ := p
  obtain ⟨aa, vs, rfl, s1, _⟩ := h0.dk rv0 ek
  refine ⟨aa, rfl, .inl ⟨vs, s1⟩, ?_⟩
  have sl0 := sl.mono g0
  refine two2 h0 sl0 (wpE.imp k p (fun _ _ w => wpE.imp d w (fun _ _ w => w) fun _ _ x => x.go g0) fun _ _ x => x.go g0) fun r1 r2 μ2 v1 v2 F2 α2 H2 g2 h2 rv1 rv2 p => ?_
  obtain ⟨dd, e1, p⟩ := opt.of p
  obtain ⟨kd, e2, p⟩ := opt.of p
  cases dd with
  | dic kvs2 =>
    obtain ⟨kk, e3, p⟩ := opt.of p
    obtain ⟨a2, vs2, ea, s2, r2⟩ := h2.dk (rv0.mono g2) e1
    cases ea
    refine ⟨_, dget_of (F := H2) s2 (h2.see rv1 e2) e3, ?_⟩
    rcases r2.lk kk with ⟨z1, z2⟩ | ⟨d1, w1, z1, z2, rr⟩
    · rw [z1] at p; rw [z2]
      exact p _ F2 α2 H2 (g0.trans g2) h2 rv2
    · rw [z1] at p; rw [z2]
      exact p _ F2 α2 H2 (g0.trans g2) h2 rr
  | _ => exact p.elim
theorem d_dictO {p pos : Pos} {e : Expr} {a : E} (hg : Gl X "dict") (hm : X.mg "dict" = none) (ha : PE X e (tE X.K pn W a)) (hst : ∀ x p, e ≠ .Starred x p) : PE X (.Call (.Name "dict" p) [e] [] pos) (tE X.K pn W (.dictO a)) := by
  have hs := notStar hst [] X.env
  refine PE.imp (pe_callTy call_dictD hg hm (by decide +kernel) (pa_cons ha pa_nil hs) (by decide) (by decide) hs rfl) ?_
  rintro σ H Q ⟨F, α, ρ, μ, h, sl, w⟩
  refine one1 h sl w fun r1 μ1 v1 F1 α1 H1 g1 h1 rv1 p => ?_
  obtain ⟨d, e1, p⟩ := opt.of p
  cases d with
  | dic kvs =>
    obtain ⟨aa, vs, rfl, s1, l1⟩ := h1.dk rv1 e1
    exact ⟨aa, vs, rfl, s1, fun q nq => kE.dic g1 p h1 nq l1⟩
  | _ => exact p.elim
theorem dc_main {own : List (Str × Nat)} {ek ev : E} {t : Tg} {it : It} {c : T} (how : own.map (·.2) = t.slots) {σ : L2.St} {H : Hp} {Q : VK} {F : Hp} {α : Al} {ρ : Rho} {μ : Mu} (hd : Hold X.K F H α μ) (sl : Slots X.K [] F α ρ σ)
    (w : wpE (.dcO ek ev t it c) ρ μ (kE X.K [] F α Q) (kX X.K F α σ W)) : tDc (tI X.K [] W it) (gOf X.K t) (tT X.K [] noX c) (tE X.K [] noX ek) (tE X.K [] noX ev) (own.map (·.2)) σ H Q := by
  refine ⟨F, α, ρ, μ, hd, sl, wpI.imp it w (fun ds μ1 w J F1 α1 H1 g1 h1 J1 p np => ?_) fun _ _ x => x⟩
  rw [how]
  have nh : α1.hid p = none := by
    cases q : α1.hid p with
    | none => rfl
    | some ws => have := (h1.hd p ws q).1; rw [np] at this; cases this
  obtain ⟨h0, g0⟩ := (h1.add (u := .dK []) np).own (p := p) (o := .dic []) (by rw [upd_same]; simp) (fun z => h1.al _ z np) nh ⟨h1.fr _ np, [], upd_same, .nil⟩
  have hp : (⟨α1.as ++ [p], α1.hid⟩ : Al).as[μ1.length]? = some p := by rw [← h1.len]; simp
  let Cl := fun (ds : List D) (μ : Mu) (P : Mu → Prop) => compK (tgD t) (fun ρ' μ' Q' => wpT c ρ' μ' Q' fun _ _ => False) (fun ρ' μ' Q' => wpE ek ρ' μ' Q' fun _ _ => False) (fun ρ' μ' Q' => wpE ev ρ' μ' Q' fun _ _ => False) (wipeR ρ t.slots) μ1.length ds μ P
  let St := fun (i : Nat) (H' : Hp) => ∃ F2 α2 μ2, Go F1 F2 ⟨α1.as ++ [p], α1.hid⟩ α2 ∧ Hold X.K F2 H' α2 μ2 ∧ Cl (ds.drop i) μ2 fun μ3 => kE X.K [] F α Q (.loc μ1.length) μ3
  refine ⟨fun i m H' => m = ds.length - i ∧ i ≤ ds.length ∧ St i H', ⟨_, rfl, Nat.zero_le _, F1, _, _, .refl, h0, w⟩, ?_⟩
  rintro i m H' ⟨rfl, hi', F2, α2, μ2, g2, h2, cl⟩
  have gg : Go F F2 α α2 := g1.trans (g0.trans g2)
  by_cases hlt : i < ds.length
  · refine .inr ⟨J1.go i H' (g2.1.trans h2.le) hlt, fun H'' => i + 1 ≤ ds.length ∧ St (i + 1) H'', fun H'' n => ⟨_, by omega, rfl, n⟩, fun x H'' y => ?_⟩
    obtain ⟨d, ed, yy⟩ := J1.yld i H' x H'' (g2.1.trans h2.le) y hlt
    have eds : ds.drop i = d :: ds.drop (i + 1) := by
      obtain ⟨q1, q2⟩ := List.getElem?_eq_some_iff.mp ed
      rw [List.drop_eq_getElem_cons q1, q2]
    rw [eds] at cl
    obtain ⟨ρ', eρ, cl⟩ := opt.of cl
    obtain ⟨F3, h3, g3, rx⟩ : ∃ F3, Hold X.K F3 H'' α2 μ2 ∧ Go F2 F3 α2 α2 ∧ R X.K F3 x d := by
      rcases yy with ⟨rfl, rx⟩ | ⟨T, ys, es', nT, rfl, rfl, rfl, rls⟩
      · exact ⟨F2, h2, .refl, rx.mono g2.1⟩
      · obtain ⟨h3, g3⟩ := h2.new (u := .tup ys) nT fun _ _ z => nomatch z
        exact ⟨_, h3, g3, .tup (SqT.of upd_same) ((rls.mono g2.1).mono g3.1)⟩
    have sl3 : Slots X.K [] F3 α2 (wipeR ρ t.slots) (L2.wipe σ t.slots) := Slots.wipe (sl.mono (gg.trans g3)) _
    refine tg_in rx h3.le eρ sl3 fun σ2 sl4 hw => ⟨by rw [hw]; exact wipe_wipe2 σ t.slots, ?_⟩
    refine ⟨F3, _, ρ', μ2, h3, sl4, wpT.imp c cl (fun b μ3 cl F4 α4 H4 g4 h4 => ?_) fun _ _ x => x.elim⟩
    cases b with
    | false =>
      rw [if_neg Bool.false_ne_true] at cl
      exact L2.iteF ⟨hlt, F4, α4, μ3, (g2.trans g3).trans g4, h4, cl⟩
    | true =>
      rw [if_pos rfl] at cl
      refine L2.iteT ?_
      refine ⟨F4, α4, ρ', μ3, h4, sl4.mono g4, wpE.imp ek cl (fun rk μ4 cl vk F5 α5 H5 g5 h5 rvk => ?_) fun _ _ x => x.elim⟩
      obtain ⟨kd, e1, cl⟩ := opt.of cl
      obtain ⟨kk, e2, cl⟩ := opt.of cl
      have eyk : vk = kV kk := (h5.see rvk e1).dgk e2
      refine ⟨F5, α5, ρ', μ4, h5, (sl4.mono g4).mono g5, wpE.imp ev cl (fun rv μ5 cl vv F6 α6 H6 g6 h6 rv6 => ?_) fun _ _ x => x.elim⟩
      obtain ⟨⟨e, μ7⟩, ef, cl⟩ := opt.of cl
      obtain ⟨F7, g7, h7, r7⟩ := h6.freeze rv6 ef
      obtain ⟨o, eo, cl⟩ := opt.of cl
      have gall := ((g2.trans g3).trans g4).trans ((g5.trans g6).trans g7)
      have hp7 := gall.get hp
      cases o with
      | dic kvs =>
        obtain ⟨hz, cl⟩ := cl
        obtain ⟨nF, vs, q, rl⟩ := h7.ob _ p _ hp7 eo
        refine ⟨vs, kk, eyk, q, by rw [rl.length, line_eq]; exact hz, hlt, F7, α6, _, gall, h7.write (o := .dic (pk kvs kk e)) hp7 nF q (fun x z => nomatch z) ⟨nF, _, upd_same, rl.put r7⟩, cl⟩
      | _ => exact cl.elim
  · have e : i = ds.length := by omega
    subst e
    refine .inl ⟨J1.stop _ H' (g2.1.trans h2.le) (Nat.le_refl _), ?_⟩
    rw [List.drop_length] at cl
    have cl : kE X.K [] F α Q (.loc μ1.length) μ2 := cl
    exact cl _ F2 α2 H' gg h2 ⟨p, g2.get hp, rfl⟩
theorem d_dcO {kx vx tg iter : Expr} {ifs : List Expr} {scope : Scope} {own : List (Str × Nat)} {pos : Pos} {ek ev : E} {t : Tg} {it : It} {c : T} (hc : X.calm = true) (hN : X.N.Nodup) (hi : PI X tg iter (tI X.K [] W it)) (ok : BlkOk X.N X.env.scope scope own) (how : own.map (·.2) = t.slots)
    (hg : ∀ (s : Shared) (H : Hp) (C : Addr) (cl : List (Str × Addr)) (fp : List Addr), PG (X.blk s H scope (compEnvC scope cl C X.env) fp) tg (gOf X.K t)) (ht : ∀ (s : Shared) (H : Hp) (C : Addr) (cl : List (Str × Addr)) (fp : List Addr), PTs (X.blk s H scope (compEnvC scope cl C X.env) fp) ifs (tT X.K [] noX c))
    (hk : ∀ (s : Shared) (H : Hp) (C : Addr) (cl : List (Str × Addr)) (fp : List Addr), PE (X.blk s H scope (compEnvC scope cl C X.env) fp) kx (tE X.K [] noX ek)) (hv : ∀ (s : Shared) (H : Hp) (C : Addr) (cl : List (Str × Addr)) (fp : List Addr), PE (X.blk s H scope (compEnvC scope cl C X.env) fp) vx (tE X.K [] noX ev))
    (hs : ∀ x, foldedSetIterable iter X.env x = pure x) : PE X (.DictComp kx vx [⟨tg, iter, ifs, 0⟩] scope pos) (tE X.K [] W (.dcO ek ev t it c)) := by
  refine PE.imp (pe_dc hc hN hi ok hg ht hk hv hs) ?_
  rintro σ H Q ⟨F, α, ρ, μ, hd, sl, w⟩
  exact dc_main how hd sl w
theorem s_setDc {i : Nat} {y : Str} {py spos : Pos} {kx vx tg iter : Expr} {ifs : List Expr} {scope : Scope} {own : List (Str × Nat)} {pos : Pos} {ek ev : E} {t : Tg} {it : It} {c : T} (hy : X.N[i]? = some y) (hyl : X.env.scope.names.lookup y = some .local)
    (hsw : swapsWith (.DictComp kx vx [⟨tg, iter, ifs, 0⟩] scope pos) (some (.Name y py)) spos.line X.env = pure true) (hc : X.calm = true) (hN : X.N.Nodup) (hi : PI X tg iter (tI X.K [] W it)) (ok : BlkOk X.N X.env.scope scope own) (how : own.map (·.2) = t.slots)
    (hg : ∀ (s : Shared) (H : Hp) (C : Addr) (cl : List (Str × Addr)) (fp : List Addr), PG (X.blk s H scope (compEnvC scope cl C X.env) fp) tg (gOf X.K t)) (ht : ∀ (s : Shared) (H : Hp) (C : Addr) (cl : List (Str × Addr)) (fp : List Addr), PTs (X.blk s H scope (compEnvC scope cl C X.env) fp) ifs (tT X.K [] noX c))
    (hk : ∀ (s : Shared) (H : Hp) (C : Addr) (cl : List (Str × Addr)) (fp : List Addr), PE (X.blk s H scope (compEnvC scope cl C X.env) fp) kx (tE X.K [] noX ek)) (hv : ∀ (s : Shared) (H : Hp) (C : Addr) (cl : List (Str × Addr)) (fp : List Addr), PE (X.blk s H scope (compEnvC scope cl C X.env) fp) vx (tE X.K [] noX ev))
    (hs : ∀ x, foldedSetIterable iter X.env x = pure x) :
    PS X (.Assign [.Name y py] (.DictComp kx vx [⟨tg, iter, ifs, 0⟩] scope pos) spos) (tS X.K [] W (.set i (.dcO ek ev t it c))) := by
  refine ⟨fun pins s σ H D I z => ?_⟩
  obtain ⟨F, α, ρ, μ, hd, sl, w⟩ := z
  have w' : wpE (.dcO ek ev t it c) ρ μ (kE X.K [] F α fun x H1 => D.nx (σ.set i (some x)) H1) (kX X.K F α σ W) :=
    wpE.imp (.dcO ek ev t it c) w (fun rv μ1 q v F1 α1 H1 g1 h1 r => q F1 α1 H1 _ g1 h1 ((sl.mono g1).set r)) fun _ _ z => exE sl z
  have main := dc_main how hd sl w'
  rw [exec_Assign_Name_used _ _ _ _ hsw]
  refine wpAny_bind (wpAny_standAt (wpAny_bind ?_))
  show wpAny _ X.A (do let _ ← comprehension (.DictComp kx vx [⟨tg, iter, ifs, 0⟩] scope pos) scope X.env (firstIterPos [⟨tg, iter, ifs, 0⟩] pos) newDict false (eval iter X.env) (some (assign (.Name y py) X.env))) _ _ s
  refine wpAny_bind (thn (dc_core (Qf := fun _ s' => SP X pins D .next s') hc hN I hi ok hg ht hk hv hs main fun dd cc s1 m H1 I1 q hn free => ?_) fun _ s1 hq => wpAny_pure (wpAny_pure hq))
  show wpAny _ _ (assign (.Name y py) X.env (.ref dd)) _ _ _
  refine wpAny_assign_Name (store_ok2 (v := V.ref dd) I1 hN hy (.inl hyl) rfl (fun s2 I2 ⟨b, sb, hb⟩ => ?_) (.inr hyl))
  obtain ⟨f0, f1, f2, f3, f4, f5⟩ := free
  have ne : cc ≠ b := by
    rcases hb with z | z
    · rw [z]; exact f1
    · exact fun e => f4 y b z e.symm
  refine ⟨m, hn.sameBut sb ne, fun h3 sb3 => ?_⟩
  exact ⟨_, H1, I2.turned (t' := s2.toks) (fun u o hu e => (sb3.2 u hu).trans e) f0 f1 f3 f4 f5, q⟩
theorem sw_dc {kx vx : Expr} {gs : List Comprehension} {scope : Scope} {pos py : Pos} {y : Str} {l : Nat} {env : Env} (hk : env.scope.kind = .function) (hy : env.scope.names.lookup y = some .local) (hl : (py.line == pos.line) = true)
    (ha : (scope.names.any fun (n, k) => n == y && (k == .local || k == .cell)) = false) : swapsWith (.DictComp kx vx gs scope pos) (some (.Name y py)) l env = pure true := by
  have k1 : env.kindOf y = some .local := hy
  have k2 : env.blockKind = .function := by unfold Env.blockKind; rw [hk]; rfl
  unfold swapsWith
  simp only [k1, k2, ha, hl, Expr.pos]
  rfl
end
section
variable {X : Cx} {W : WX}
theorem s_try2 {x1 n1 x2 n2 : Str} {c1 c2 : Value} {i1 i2 : Nat} {body su1 su2 : List Stmt} {b1 b2 : Stmt} {np1 np2 pos pos1 pos2 : Pos} {tab1 tab2 : List (Str × Bool)} {b h1 h2 : S} (hs : X.stack = X.env :: X.outer) (hf : X.env.frame = some X.env.locals) (hN : X.N.Nodup)
    (hi1 : X.N[i1]? = some n1) (hl1 : X.env.kindOf n1 = some .local) (hc1 : Names X x1 c1) (hi2 : X.N[i2]? = some n2) (hl2 : X.env.kindOf n2 = some .local) (hc2 : Names X x2 c2) (tk : Takes X W)
    (T1 : ∀ q ∈ tab1, PySem.W.exmOne X.K (.ref (He.ga X.K q.1)) c1 = some q.2) (T2 : ∀ q ∈ tab2, PySem.W.exmOne X.K (.ref (He.ga X.K q.1)) c2 = some q.2)
    (hb : ∀ (W' : WX) (pn' : List (Addr × Obj)) (xe : Value → Shared → Prop), Takes (X.tr pn' xe) W' → PassesOwn (model X.prog X.w) X.A X.env xe → PSs (X.tr pn' xe) body (tS X.K [] W' b))
    (hsu1 : ∀ (a : Addr) (oe : Obj) (pn' : List (Addr × Obj)), PSs (X.suite a ((a, oe) :: pn')) (b1 :: su1) (tS X.K [(a, oe)] noX h1)) (hsu2 : ∀ (a : Addr) (oe : Obj) (pn' : List (Addr × Obj)), PSs (X.suite a ((a, oe) :: pn')) (b2 :: su2) (tS X.K [(a, oe)] noX h2)) :
    PS X (.Try body [.ExceptHandler (some (.Name x1 np1)) (some n1) (b1 :: su1) pos1, .ExceptHandler (some (.Name x2 np2)) (some n2) (b2 :: su2) pos2] [] [] pos) (tS X.K [] W (.try2 b x1 tab1 i1 h1 x2 tab2 i2 h2)) := by
  refine PS.imp (ps_clauses (tb := fun W' => tS X.K [] W' b) (l := [(c1, i1, fun a cls d D σ H => ∀ oe, Zc cls d oe → (∃ vs, oe.data = .fields vs) → tS X.K [(a, oe)] noX h1 D σ H), (c2, i2, fun a cls d D σ H => ∀ oe, Zc cls d oe → (∃ vs, oe.data = .fields vs) → tS X.K [(a, oe)] noX h2 D σ H)]) hs hf hN tk hb
    (.cons (q := (c1, i1, _)) hc1 hi1 hl1 (fun a oe cls d pn' hz hff => PSs.imp (hsu1 a oe pn') fun D σ H q => q oe hz hff) (.cons (q := (c2, i2, _)) hc2 hi2 hl2 (fun a oe cls d pn' hz hff => PSs.imp (hsu2 a oe pn') fun D σ H q => q oe hz hff) .nil))) ?_
  rintro D σ H ⟨F, α, ρ, μ, hd, sl, w⟩
  refine ⟨F, α, ρ, μ, hd, sl, wpS.imp b w ⟨fun _ _ z => z, fun _ _ z => z, fun _ _ z => z, fun _ _ z => z, fun e ρ' μ' w cls d F' α' H' σ' g h' sl' r => ?_⟩⟩
  obtain ⟨rc, rx⟩ := r
  have suit : ∀ (j : Nat) (hh : S), wpS hh (ρ'.set j (some (.exc e.c e.fs))) μ' ((kS X.K [] F α W D).suite j) → ∀ a, H' a = none → ∀ oe, Zc cls d oe → (∃ vs, oe.data = .fields vs) → tS X.K [(a, oe)] noX hh (endsOff D j) (σ'.set j (some (.ref a))) H' := by
    intro j hh w a na oe zc hff
    rw [rc] at zc
    refine ⟨F', α', _, μ', h', (sl'.widen (pn := [(a, oe)])).set (rv := .exc e.c e.fs) ⟨a, oe, d, rfl, List.mem_cons_self, hff, zc, rx⟩, wpS.imp hh w ⟨?_, ?_, ?_, ?_, fun _ _ _ z => z.elim⟩⟩
    · exact fun ρ2 μ2 q F2 α2 H2 σ2 g2 h2 sl2 => q F2 α2 H2 _ (g.trans g2) h2 sl2.drop.noEx
    · exact fun r2 μ2 q v F2 α2 H2 g2 h2 rv => q.2 v F2 α2 H2 (g.trans g2) h2 (rv.bare q.1)
    · exact fun ρ2 μ2 q F2 α2 H2 σ2 g2 h2 sl2 => q F2 α2 H2 _ (g.trans g2) h2 sl2.drop.noEx
    · exact fun ρ2 μ2 q F2 α2 H2 σ2 g2 h2 sl2 => q F2 α2 H2 _ (g.trans g2) h2 sl2.drop.noEx
  obtain ⟨z, el, w⟩ := opt.of w
  refine ⟨z, by rw [rc]; exact T1 _ (tab_mem el), fun hz a na => ?_, fun hz => ?_⟩
  · subst hz
    rw [if_pos rfl] at w
    exact suit i1 h1 w a na
  · subst hz
    rw [if_neg Bool.false_ne_true] at w
    obtain ⟨z, el, w⟩ := opt.of w
    refine ⟨z, by rw [rc]; exact T2 _ (tab_mem el), fun hz a na => ?_, fun hz => ?_⟩
    · subst hz
      rw [if_pos rfl] at w
      exact suit i2 h2 w a na
    · subst hz
      rw [if_neg Bool.false_ne_true] at w
      exact w cls d F' α' H' σ' g h' sl' ⟨rc, rx⟩
end
end DL

namespace DL
open PySem PySem.Spec PyProof.Rows L2

/-- what is asked of the class, beside the method -/
def owB (K : PySem.W.Frag) (o : Oo) (C fa : Addr) : Bool := match o with
  | .or => PySem.W.selfFirst K C
  | .and => PySem.W.selfFirst K C
  | .ror => PySem.W.selfFirst K C && ((match PySem.W.findIn K (.ref C) "__or__" with
    | some (some (.ref _)) => true
    | _ => false) && (He.eqO (PySem.W.findIn K (.type "list") "__or__") (some none) && He.eqO (PySem.W.findIn K (.type "list") "__ror__") (some none)))
  | .eq => true
  | .le => true
  | .ne => He.eqO (PySem.W.findIn K (.ref C) "__ne__") (some (some (.builtin "object.__ne__"))) && decide (PySem.W.mroIn K C (.type "object") = some true)
  | .inn => true
  | .nin => true
  | .ix => PySem.W.fnIn K fa
  | .eqd => ["NoneType", "bool", "int", "str", "list", "tuple", "dict"].all fun t => PySem.W.notFirst K C (.type t)
section
variable {X : Cx} {W : WX} {pn : List (Addr × Obj)}
theorem inst_of {K : PySem.W.Frag} {F H : Hp} {α : Al} {μ : Mu} {c m : Str} {rv : RV} {v : V} (h : Hold K F H α μ) (r : RvR K pn F α rv v) (p : isOf c m μ rv) : ∃ b dx fs, v = .ref b ∧ H b = some (.ins (He.ga K c) dx fs) := by
  cases rv with
  | exc _ _ => exact p.elim
  | since _ _ _ => exact p.elim
  | dat d0 =>
    cases d0 with
    | obj c' fs =>
      obtain ⟨rfl, _⟩ := p
      cases r with
      | obj e2 e3 rf => exact ⟨_, _, _, rfl, h.le.ex _ _ rfl e2⟩
    | _ => exact p.elim
  | loc l =>
    obtain ⟨oo, eo, p⟩ := opt.of p
    obtain ⟨b, eb, rfl⟩ := r
    cases oo with
    | frz d =>
      cases d with
      | obj c' fs =>
        obtain ⟨rfl, _⟩ := p
        have rr : R K F (.ref b) (.obj c' fs) := h.ob l b _ eb eo
        cases rr with
        | obj e2 e3 rf => exact ⟨_, _, _, rfl, h.le.ex _ _ rfl e2⟩
      | _ => exact p.elim
    | ins c' fs =>
      obtain ⟨rfl, _⟩ := p
      obtain ⟨_, dx, vs, e2, _⟩ := h.ob l b _ eb eo
      exact ⟨b, dx, vs, rfl, e2⟩
    | _ => exact p.elim
def fitsV (K : PySem.W.Frag) (o : Oo) (C : Addr) (y : V) (H : Hp) : Prop := match o with
  | .eqd => ∃ d t, R K H y d ∧ tyD d = some t
  | .ror => ∃ l xs, y = .ref l ∧ Rd H l (.lst xs)
  | .inn => True
  | .nin => True
  | .ix => True
  | _ => ∃ b dx fs, y = .ref b ∧ H b = some (.ins C dx fs)
def backV (o : Oo) (Q : VK) : VK := fun v H => match o with
  | .or | .and | .ror | .ix => Q v H
  | .ne | .nin => ∃ z, v = .bl z ∧ Q (.bl (!z)) H
  | _ => ∃ z, v = .bl z ∧ Q (.bl z) H
def rOw (K : PySem.W.Frag) (W : WX) (σ : L2.St) (o : Oo) (c : Str) (S : Spc) (Q : VK) (self oth : V) (H : Hp) : Prop := (∃ b dx fs, self = .ref b ∧ H b = some (.ins (He.ga K c) dx fs)) ∧ fitsV K o (He.ga K c) oth H ∧ lift K S [self, oth] H (backV o Q) (fun cls d H' => W cls d σ H')
theorem ow_conv {o : Oo} {a b : E} {c : Str} {S : Spc} {σ : L2.St} {H : Hp} {Q : VK} (h : tE X.K pn W (.ow o a b c S) σ H Q) :
    tE X.K pn W a σ H fun x H1 => tE X.K pn W b σ H1 fun y H2 => if o.flip = true then rOw X.K W σ o c S Q y x H2 else rOw X.K W σ o c S Q x y H2 := by
  obtain ⟨F, α, ρ, μ, h, sl, w⟩ := h
  refine two2 h sl w fun r1 r2 μ2 v1 v2 F2 α2 H2 g2 h2 rv1 rv2 p => ?_
  obtain ⟨ok1, ok2, p⟩ := p
  have fits : ∀ {r : RV} {v : V}, RvR X.K pn F2 α2 r v → o.fits c μ2 r → fitsV X.K o (He.ga X.K c) v H2 := by
    intro r v rv f
    cases o <;> first | exact trivial | exact inst_of h2 rv f | skip
    · obtain ⟨xs, e⟩ := f
      obtain ⟨l, vs, rfl, s1, _⟩ := h2.items rv e
      exact ⟨l, vs, rfl, s1⟩
    · obtain ⟨d, e, et⟩ := f
      obtain ⟨t, et⟩ := Option.isSome_iff_exists.mp et
      exact ⟨d, t, h2.see rv e, et⟩
  have back : ∀ {rv : RV} {m : Mu}, o.back (kE X.K pn F α Q) rv m → kE X.K pn F α (backV o Q) rv m := by
    intro rv m q v F' α' H' g hh r
    cases o <;> first
      | exact q v F' α' H' g hh r
      | (obtain ⟨z, rfl, q⟩ := q; cases r; exact ⟨z, rfl, q _ F' α' H' g hh (R.bl _)⟩)
  split at p
  · rename_i hf
    rw [if_pos hf]
    exact ⟨inst_of h2 rv2 p.1, fits rv1 p.2.1, lift_in (pn := pn) (rs := [r2, r1]) g2 h2 ⟨rv2.bare ok2, rv1.bare ok1, trivial⟩ (S.mono _ _ _ _ _ _ p.2.2 (fun _ _ q => back q) fun _ _ z => z)⟩
  · rename_i hf
    rw [if_neg hf]
    exact ⟨inst_of h2 rv1 p.1, fits rv2 p.2.1, lift_in (pn := pn) (rs := [r1, r2]) g2 h2 ⟨rv1.bare ok1, rv2.bare ok2, trivial⟩ (S.mono _ _ _ _ _ _ p.2.2 (fun _ _ q => back q) fun _ _ z => z)⟩
theorem relV_ni {v : V} {u : Value} (h : RelV v u) : u ≠ .notImplemented := by
  rintro rfl
  cases v <;> first | (cases h; done) | (obtain ⟨t, h⟩ := h; cases h; done)
theorem cmpBack {P : Value → Shared → Prop} {u : Value} {s : Shared} (n : u ≠ .notImplemented) (h : P u s) : PySem.W.CmpBack P u s := by
  unfold PySem.W.CmpBack
  split
  · exact n rfl
  · exact h
theorem ins_at {pins : List (Addr × Obj)} {s : Shared} {σ : L2.St} {H : Hp} {C b dx : Addr} {fs : List (Str × V)} (I : Inv X pins σ H s) (e : H b = some (.ins C dx fs)) : ∃ ox od, PySem.W.InstAt s.heap b ox C od ∧ ox.data = .plain := by
  obtain ⟨mA, O, _⟩ := ins_get I.hok e
  obtain ⟨od, J, _⟩ := O.look
  exact ⟨_, _, J, rfl⟩
/-- what a method of the class c keeps, as it is called -/
abbrev MeR (X : Cx) (c m : Str) (fa : Addr) (j : Nat) (S : Spc) : Prop := Meth X.K (He.ga X.K c) m fa ∧ FnR X.prog X.w X.K X.mg X.base (CX X.prog X.w) j fa (lift X.K S)
theorem me_call {c m : Str} {fa : Addr} {j : Nat} {S : Spc} {pins : List (Addr × Obj)} {s : Shared} {σ : L2.St} {H : Hp} {us : List Value} {vs : List V} {Q : VK} (M : MeR X c m fa j S) (hr : Room (j + 1) X.A) (tk : Takes X W) (I : Inv X pins σ H s) (r : Vals vs us)
    (h : lift X.K S vs H Q (fun cls d H' => W cls d σ H')) : wpAny (model X.prog X.w) X.A (call (.ref fa) us) (EP X pins σ Q) X.xe s :=
  (DL.FnR.callOk M.2) X W rfl rfl rfl rfl rfl (hr.mono (Nat.le_succ _)) tk pins s σ H us vs Q I r h
theorem me_call1 {c m : Str} {fa : Addr} {j : Nat} {S : Spc} {pins : List (Addr × Obj)} {s : Shared} {σ : L2.St} {H : Hp} {us : List Value} {vs : List V} {Q : VK} (M : MeR X c m fa j S) (hr : Room (j + 1) X.A) (tk : Takes X W) (I : Inv X pins σ H s) (r : Vals vs us)
    (h : lift X.K S vs H Q (fun cls d H' => W cls d σ H')) : wpAny (model X.prog X.w) X.A.in1 (call (.ref fa) us) (EP X pins σ Q) X.xe s := by
  refine wpAny_call (codeAny_mono (M.2 X.A.in1 X.stack s H us vs Q _ hr.in1 I.env0.in1 r h) fun r s' hq => ?_)
  cases r with
  | error e => exact tk e s' (XE.of_call I (fun _ _ _ h => h) hq)
  | ok fl =>
    cases fl with
    | ret u => exact I.after hq
    | next => exact False.elim hq
    | brk => exact False.elim hq
    | cont => exact False.elim hq
section
variable {c : Str} {fa : Addr} {j : Nat} {S : Spc} {pins : List (Addr × Obj)} {s : Shared} {σ : L2.St} {H : Hp} {x y : V} {v u : Value} {Q : VK}
theorem ow_bin {o : Oo} {op : Operator} (hop : (o = .or ∧ op = .BitOr) ∨ (o = .and ∧ op = .BitAnd)) (M : MeR X c o.nm fa j S) (hb : owB X.K o (He.ga X.K c) fa = true) (hr : Room (j + 1) X.A) (tk : Takes X W) (I : Inv X pins σ H s) (rx : RelV x v) (ry : RelV y u)
    (h : rOw X.K W σ o c S Q x y H) : wpAny (model X.prog X.w) X.A (binaryOp op v u) (EP X pins σ Q) X.xe s := by
  obtain ⟨⟨b, dx, fs, rfl, eb⟩, f, l⟩ := h
  obtain rfl : v = Value.ref b := rx
  obtain ⟨ox, od, J, _⟩ := ins_at I eb
  obtain ⟨m, fr⟩ := I.fr
  have call_ : wpAny (model X.prog X.w) X.A (call (.ref fa) [.ref b, u]) (PySem.W.CmpBack (EP X pins σ Q)) X.xe s := by
    refine wpAny_mono (me_call (vs := [.ref b, y]) M hr tk I (.cons rfl (.cons ry .nil)) l) (fun r s' q => ?_) fun _ _ z => z
    have q' := q
    obtain ⟨w, H', I', rw', _⟩ := q'
    refine cmpBack (relV_ni rw') ?_
    rcases hop with ⟨rfl, _⟩ | ⟨rfl, _⟩ <;> exact q
  rcases hop with ⟨rfl, rfl⟩ | ⟨rfl, rfl⟩
  · obtain ⟨b2, dx2, fs2, rfl, eb2⟩ := f
    obtain rfl : u = Value.ref b2 := ry
    obtain ⟨ox2, od2, J2, _⟩ := ins_at I eb2
    exact PySem.W.binop_K fr I.ok.mod.kin J J2.type hb M.1.at_ M.1.fn call_
  · obtain ⟨b2, dx2, fs2, rfl, eb2⟩ := f
    obtain rfl : u = Value.ref b2 := ry
    obtain ⟨ox2, od2, J2, _⟩ := ins_at I eb2
    exact PySem.W.binop_K fr I.ok.mod.kin J J2.type hb M.1.at_ M.1.fn call_
theorem ow_ix (M : MeR X c "__getitem__" fa j S) (hb : PySem.W.fnIn X.K fa = true) (hr : Room (j + 1) X.A) (tk : Takes X W) (I : Inv X pins σ H s) (rx : RelV x v) (ry : RelV y u) {ve se : Expr} (hsl : subscripted se true v u = runValue (.builtin "lifetime.subscript" ⟨[v, u], []⟩))
    (h : rOw X.K W σ .ix c S Q x y H) : wpAny (model X.prog X.w) X.A (subscriptTail ve se v u) (EP X pins σ Q) X.xe s := by
  obtain ⟨⟨b, dx, fs, rfl, eb⟩, f, l⟩ := h
  obtain rfl : v = Value.ref b := rx
  obtain ⟨ox, od, J, _⟩ := ins_at I eb
  obtain ⟨m, fr⟩ := I.fr
  exact PySem.W.sub_K fr I.ok.mod.kin J M.1.at_ hb M.1.fn (me_call1 (vs := [.ref b, y]) M hr tk I (.cons rfl (.cons ry .nil)) l) hsl
theorem ow_in {o : Oo} {op : CmpOp} (hop : (o = .inn ∧ op = .In) ∨ (o = .nin ∧ op = .NotIn)) (M : MeR X c "__contains__" fa j S) (hr : Room (j + 1) X.A) (tk : Takes X W) (I : Inv X pins σ H s) (rx : RelV x v) (ry : RelV y u)
    (h : rOw X.K W σ o c S Q y x H) : wpAny (model X.prog X.w) X.A (compareOp op v u) (EP X pins σ Q) X.xe s := by
  obtain ⟨⟨b, dx, fs, rfl, eb⟩, f, l⟩ := h
  obtain rfl : u = Value.ref b := ry
  obtain ⟨ox, od, J, _⟩ := ins_at I eb
  obtain ⟨m, fr⟩ := I.fr
  have call_ := me_call (vs := [.ref b, x]) M hr tk I (.cons rfl (.cons rx .nil)) l
  rcases hop with ⟨rfl, rfl⟩ | ⟨rfl, rfl⟩
  · refine PySem.W.in_K fr I.ok.mod.kin J M.1.at_ M.1.fn (wpAny_mono call_ (fun r s' q => ?_) fun _ _ z => z)
    obtain ⟨w, H', I', rw', z, rfl, q⟩ := q
    cases rw'
    exact wpAny_truthy_bool ⟨.bl z, H', I', rfl, q⟩
  · refine PySem.W.notIn_K fr I.ok.mod.kin J M.1.at_ M.1.fn (wpAny_mono call_ (fun r s' q => ?_) fun _ _ z => z)
    obtain ⟨w, H', I', rw', z, rfl, q⟩ := q
    cases rw'
    exact wpAny_truthy_bool ⟨.bl (!z), H', I', rfl, q⟩
theorem ow_cmp {o : Oo} {op : CmpOp} (hop : (o = .eq ∧ op = .Eq) ∨ (o = .le ∧ op = .LtE)) (hu : X.A.units + 64 < cLine) (M : MeR X c o.nm fa j S) (hr : Room (j + 1) X.A) (tk : Takes X W) (I : Inv X pins σ H s) (rx : RelV x v) (ry : RelV y u)
    (h : rOw X.K W σ o c S Q x y H) : wpAny (model X.prog X.w) X.A (compareOp op v u) (EP X pins σ Q) X.xe s := by
  obtain ⟨⟨b, dx, fs, rfl, eb⟩, f, l⟩ := h
  obtain rfl : v = Value.ref b := rx
  obtain ⟨ox, od, J, _⟩ := ins_at I eb
  obtain ⟨m, fr⟩ := I.fr
  have nf : PySem.W.notFirst X.K (He.ga X.K c) (.ref (He.ga X.K c)) = true := by unfold PySem.W.notFirst; simp
  rcases hop with ⟨rfl, rfl⟩ | ⟨rfl, rfl⟩
  · obtain ⟨b2, dx2, fs2, rfl, eb2⟩ := f
    obtain rfl : u = Value.ref b2 := ry
    obtain ⟨ox2, od2, J2, _⟩ := ins_at I eb2
    refine PySem.W.cmp_K (op := .Eq) (by omega) fr I.ok.mod.kin J J2.type nf M.1.at_ M.1.fn (wpAny_mono (me_call (vs := [.ref b, .ref b2]) M hr tk I (.cons rfl (.cons rfl .nil)) l) (fun r s' q => ?_) fun _ _ z => z)
    obtain ⟨w, H', I', rw', z, rfl, q⟩ := q
    cases rw'
    exact cmpBack (fun e => nomatch e) ⟨.bl z, H', I', rfl, q⟩
  · obtain ⟨b2, dx2, fs2, rfl, eb2⟩ := f
    obtain rfl : u = Value.ref b2 := ry
    obtain ⟨ox2, od2, J2, _⟩ := ins_at I eb2
    refine PySem.W.cmp_K (op := .LtE) (by omega) fr I.ok.mod.kin J J2.type nf M.1.at_ M.1.fn (wpAny_mono (me_call (vs := [.ref b, .ref b2]) M hr tk I (.cons rfl (.cons rfl .nil)) l) (fun r s' q => ?_) fun _ _ z => z)
    obtain ⟨w, H', I', rw', z, rfl, q⟩ := q
    cases rw'
    exact cmpBack (fun e => nomatch e) ⟨.bl z, H', I', rfl, q⟩
theorem ow_eqd (hu : X.A.units + 64 < cLine) (M : MeR X c "__eq__" fa j S) (hb : owB X.K .eqd (He.ga X.K c) fa = true) (hr : Room (j + 1) X.A) (tk : Takes X W) (I : Inv X pins σ H s) (rx : RelV x v) (ry : RelV y u)
    (h : rOw X.K W σ .eqd c S Q x y H) : wpAny (model X.prog X.w) X.A (compareOp .Eq v u) (EP X pins σ Q) X.xe s := by
  obtain ⟨⟨b, dx, fs, rfl, eb⟩, ⟨d, t, rd, et⟩, l⟩ := h
  obtain rfl : v = Value.ref b := rx
  obtain ⟨ox, od, J, _⟩ := ins_at I eb
  obtain ⟨m, fr⟩ := I.fr
  obtain ⟨P, Z, p, _⟩ := R.kit I ry rd et
  have ht : t ∈ ["NoneType", "bool", "int", "str", "list", "tuple", "dict"] := by cases d <;> cases et <;> decide
  have nf : PySem.W.notFirst X.K (He.ga X.K c) (.type t) = true := List.all_eq_true.mp hb t ht
  refine PySem.W.cmp_K (op := .Eq) (by omega) fr I.ok.mod.kin J (Z.ty _ _ I.kIn p) nf M.1.at_ M.1.fn (wpAny_mono (me_call (vs := [.ref b, y]) M hr tk I (.cons rfl (.cons ry .nil)) l) (fun r s' q => ?_) fun _ _ z => z)
  obtain ⟨w, H', I', rw', z, rfl, q⟩ := q
  cases rw'
  exact cmpBack (fun e => nomatch e) ⟨.bl z, H', I', rfl, q⟩
end
end
end DL

namespace DL
open PySem PySem.Spec PyProof.Rows L2

section
variable {P : Program} {w : World} {A : Around} {E : Value → Shared → Prop} {s : Shared} {K : PySem.W.Frag} {x y C f : Addr} {ox oy : Obj} {od od2 : Option Obj} {Q : Value → Shared → Prop}
theorem objNe (hu : A.units + 1 < cLine) (kin : K.In s.heap) (ix : PySem.W.InstAt s.heap x ox C od) (he : PySem.W.findIn K (.ref C) "__eq__" = some (some (.ref f))) (hf : PySem.W.isFn K (.ref f) = true) (hm : PySem.W.mroIn K C (.type "object") = some true)
    (h : wpAny (model P w) A.in1 (call (.ref f) [.ref x, .ref y]) (fun v s' => ∃ b, v = .bool b ∧ Q (.bool (!b)) s') E s) :
    wpAny (model P w) A (call (.builtin "object.__ne__") [.ref x, .ref y]) Q E s := by
  refine wpAny_call (codeAny_call_builtin PySem.F.cmp_object.ne.plain PySem.F.cmpEntry_ne (PySem.W.check_slot PySem.F.cmpKind_ne PySem.F.cmpSplit_ne (ix.type.andThen (PySem.W.looks_mroIn kin hm)) (PySem.F.cmpArgs_ne _ _) ?_))
  unfold Builtin.«object.__ne__»
  refine wpAny_bind (wpAny_of_eq (a := ((Value.ref x : Value), [Value.ref y])) (by first | rfl | (simp only [slotArgs]; rfl)) ?_)
  refine wpAny_bind (wpAny_cRoomFor (by show A.units + 1 < cLine; exact hu) ?_)
  refine wpAny_bind (PySem.W.ifBound_K kin ix he hf (wpAny_mono h (fun r s' q => ?_) fun _ _ z => z))
  obtain ⟨b, rfl, q⟩ := q
  refine wpAny_bind (wpAny_truthy_bool ?_)
  exact wpAny_pure q
theorem rcNe (hu : A.units + 1 < cLine) (kin : K.In s.heap) (ix : PySem.W.InstAt s.heap x ox C od) (iy : PySem.W.InstAt s.heap y oy C od2) (he : PySem.W.findIn K (.ref C) "__eq__" = some (some (.ref f))) (hf : PySem.W.isFn K (.ref f) = true) (hm : PySem.W.mroIn K C (.type "object") = some true)
    (hn : PySem.W.findIn K (.ref C) "__ne__" = some (some (.builtin "object.__ne__")))
    (h : wpAny (model P w) A.in1 (call (.ref f) [.ref x, .ref y]) (fun v s' => ∃ b, v = .bool b ∧ Q (.bool (!b)) s') E s) :
    wpAny (model P w) A (richCompare .NotEq (.ref x) (.ref y)) Q E s := by
  have called : wpAny (model P w) A (call (.builtin "object.__ne__") [.ref x, .ref y]) (fun v s' => (∃ b, v = .bool b) ∧ Q v s') E s :=
    objNe hu kin ix he hf hm (wpAny_mono h (fun r s' ⟨b, e, q⟩ => ⟨b, e, ⟨_, rfl⟩, q⟩) fun _ _ z => z)
  have one : wpAny (model P w) A (tryCompare (.ref x) "__ne__" (.ref y)) (fun r s' => ∃ v, r = some v ∧ Q v s') E s := by
    unfold tryCompare
    refine wpAny_bind ?_
    simp only [callSpecialIfBound?, bindSpecialIfBound?]
    refine wpAny_holding (wpAny_bind (wpAny_bind (wpAny_bind (ix.type.here ((PySem.W.looks_findIn kin hn).here ?_)))))
    refine wpAny_bind (wpAny_askSetting (wpAny_ite ?_))
    have last : ∀ {P2 : Option Value → Shared → Prop}, (∀ v s', (∃ b, v = .bool b) → Q v s' → P2 (some v) s') → wpAny (model P w) A (call (.builtin "object.__ne__") ([.ref x] ++ [.ref y]) >>= fun v => pure (some v)) P2 E s := fun hp => wpAny_bind (wpAny_mono called (fun v s' q => wpAny_pure (hp v s' q.1 q.2)) fun _ _ z => z)
    have fin : ∀ (v : Value) (s' : Shared), (∃ b, v = .bool b) → Q v s' → wpAny (model P w) A (match some v with | some .notImplemented | none => pure none | some v => pure (some v)) (fun r s' => ∃ v, r = some v ∧ Q v s') E s' := by
      rintro v s' ⟨b, rfl⟩ q
      exact wpAny_pure ⟨_, rfl, q⟩
    split
    · exact wpAny_bind (wpAny_of_eq (PySem.F.cmp_object.ne.bind _) (wpAny_pure (by exact last fin)))
    · exact wpAny_tryCatch (wpAny_bind (wpAny_of_eq (PySem.F.cmp_object.ne.bind _) (wpAny_pure (by exact last fin))))
  unfold richCompare
  simp only [oneThing_ref]
  refine wpAny_holding (wpAny_bind (wpAny_cRoomFor (by omega) ?_))
  refine wpAny_bind (ix.type.here (wpAny_bind (iy.type.here ?_)))
  simp only [bne_self_eq_false, Bool.false_eq_true, if_false]
  refine wpAny_bind (wpAny_pure ?_)
  simp only [Bool.false_eq_true, if_false]
  refine wpAny_bind (wpAny_mono one (fun r s' z => ?_) fun _ _ e => e)
  obtain ⟨v, rfl, hq⟩ := z
  exact wpAny_pure hq
end
section
variable {prog : Program} {w : World} {A : Around} {E : Value → Shared → Prop} {s : Shared} {K : PySem.W.Frag} {x C L f : Addr} {h₀ : Heap} {m : Str → Option Value} {ox : Obj} {od : Option Obj} {T : String}
/-- b | x where b's type has neither method and x's class has the reflected one -/
theorem rbin_K {op : Operator} {b : Value} {g : Addr} {Q : Value → Shared → Prop} (F : Fr h₀ L s.heap m) (X₀ : K.In h₀) (I : PySem.W.InstAt s.heap x ox C od) (hb : PySem.W.Looks (model prog w) s.heap (typeOf b) (.type T)) (hc : PySem.W.selfFirst K C = true)
    (hs : PySem.W.findIn K (.ref C) (PySem.dunder op.info.2) = some (some (.ref g))) (hr : PySem.W.findIn K (.ref C) (dunderR op.info.2) = some (some (.ref f))) (hf : PySem.W.isFn K (.ref f) = true)
    (h1 : PySem.W.findIn K (.type T) (PySem.dunder op.info.2) = some none) (h2 : PySem.W.findIn K (.type T) (dunderR op.info.2) = some none)
    (h : wpAny (model prog w) A (call (.ref f) [.ref x, b]) (PySem.W.CmpBack Q) E s) : wpAny (model prog w) A (binaryOp op b (.ref x)) Q E s := by
  have X := X₀.keeps F.keep
  obtain ⟨cd, rest, hcd, hm⟩ := PySem.W.ksp_first hc
  rcases hi : op.info with ⟨sym, nm'⟩
  rw [hi] at hs hr h1 h2
  dsimp only at hs hr h1 h2
  have one := PySem.W.ksp_try X I hr hf h
  obtain ⟨hh, g, d, tt, os⟩ := s
  have L1 : PySem.W.Looks (model prog w) hh (typeOf (.ref x)) (.ref C) := I.type
  have L3 : PySem.W.Looks (model prog w) hh (fillsNumberSlot (.ref C) nm') true := PySem.W.fills_K X hcd hm hs
  have L4 : PySem.W.Looks (model prog w) hh (fillsNumberSlot (.type T) nm') false := PySem.W.ksp_fillsT X h1 h2
  have hne : (Value.type T == Value.ref C) = false := Bool.eq_false_iff.mpr fun q => by cases beq_iff_eq.mp q
  simp only [binaryOp, hi]
  refine wpAny_holding (wpAny_bind ?_)
  unfold binaryOp1
  refine wpAny_bind (hb.at (wpAny_bind (L1.at (wpAny_bind (L4.at ?_)))))
  simp only [hne, Bool.false_eq_true, if_false]
  refine wpAny_bind (L3.at ?_)
  simp only [Bool.false_and, Bool.false_eq_true, if_false, Bool.not_false, Bool.and_true, if_true]
  repeat ((fail_if_success (with_reducible show wpAny _ _ (tryMethod _ _ _) _ _ _)); lk)
  refine wpAny_mono one (fun r s' hr' => ?_) fun _ _ e => e
  obtain ⟨v, rfl, hq⟩ := hr'
  repeat lk
  exact hq
end
section
variable {X : Cx} {W : WX} {pn : List (Addr × Obj)} {c : Str} {fa : Addr} {j : Nat} {S : Spc}
theorem ow_ne {pins : List (Addr × Obj)} {s : Shared} {σ : L2.St} {H : Hp} {x y : V} {v u : Value} {Q : VK} (hu : X.A.units + 64 < cLine) (M : MeR X c "__eq__" fa j S) (hb : owB X.K .ne (He.ga X.K c) fa = true) (hr : Room (j + 1) X.A) (tk : Takes X W) (I : Inv X pins σ H s) (rx : RelV x v) (ry : RelV y u)
    (h : rOw X.K W σ .ne c S Q x y H) : wpAny (model X.prog X.w) X.A (compareOp .NotEq v u) (EP X pins σ Q) X.xe s := by
  obtain ⟨⟨b, dx, fs, rfl, eb⟩, ⟨b2, dx2, fs2, rfl, eb2⟩, l⟩ := h
  obtain rfl : v = Value.ref b := rx
  obtain rfl : u = Value.ref b2 := ry
  obtain ⟨ox, od, J, _⟩ := ins_at I eb
  obtain ⟨ox2, od2, J2, _⟩ := ins_at I eb2
  unfold owB at hb
  simp only [Bool.and_eq_true] at hb
  refine rcNe (by omega) I.kIn J J2 M.1.at_ M.1.fn (of_decide_eq_true hb.2) (He.eqO_ok hb.1) (wpAny_mono (me_call1 (vs := [.ref b, .ref b2]) M hr tk I (.cons rfl (.cons rfl .nil)) l) (fun r s' q => ?_) fun _ _ z => z)
  obtain ⟨w, H', I', rw', z, rfl, q⟩ := q
  cases rw'
  exact ⟨z, rfl, .bl (!z), H', I', rfl, q⟩
theorem ow_ror {pins : List (Addr × Obj)} {s : Shared} {σ : L2.St} {H : Hp} {x y : V} {v u : Value} {Q : VK} (M : MeR X c "__ror__" fa j S) (hb : owB X.K .ror (He.ga X.K c) fa = true) (hr : Room (j + 1) X.A) (tk : Takes X W) (I : Inv X pins σ H s) (rx : RelV x v) (ry : RelV y u)
    (h : rOw X.K W σ .ror c S Q y x H) : wpAny (model X.prog X.w) X.A (binaryOp .BitOr v u) (EP X pins σ Q) X.xe s := by
  obtain ⟨⟨b, dx, fs, rfl, eb⟩, ⟨b2, xs2, rfl, eb2⟩, l⟩ := h
  obtain rfl : u = Value.ref b := ry
  obtain rfl : v = Value.ref b2 := rx
  obtain ⟨ox, od, J, _⟩ := ins_at I eb
  obtain ⟨its, _, pl, _⟩ := I.list (.inl eb2)
  obtain ⟨m, fr⟩ := I.fr
  have ty : PySem.W.Looks (model X.prog X.w) s.heap (typeOf (.ref b2)) (.type "list") := by
    obtain ⟨o, e1, e2⟩ := pl.isList.typeIs (s := s)
    exact fun A Q E s k q => wpAny_typeOf_ref (k _ _ e1) (by rw [e2]; exact q)
  unfold owB at hb
  simp only [Bool.and_eq_true] at hb
  obtain ⟨h1, h2, h3, h4⟩ := hb
  split at h2
  · rename_i e
    refine rbin_K (T := "list") fr I.ok.mod.kin J ty h1 e M.1.at_ M.1.fn (He.eqO_ok h3) (He.eqO_ok h4) (wpAny_mono (me_call (vs := [.ref b, .ref b2]) M hr tk I (.cons rfl (.cons rfl .nil)) l) (fun r s' q => ?_) fun _ _ z => z)
    have q' := q
    obtain ⟨w, H', I', rw', _⟩ := q'
    exact cmpBack (relV_ni rw') q
  · cases h2
/-- the operator written -/
def Oo.bop : Oo → Option Operator
  | .or => some .BitOr | .and => some .BitAnd | .ror => some .BitOr | _ => none
def Oo.cop : Oo → Option CmpOp
  | .eq => some .Eq | .ne => some .NotEq | .le => some .LtE | .inn => some .In | .nin => some .NotIn | .eqd => some .Eq | _ => none
theorem ow_cop {o : Oo} {op : CmpOp} (ho : o.cop = some op) {pins : List (Addr × Obj)} {s : Shared} {σ : L2.St} {H : Hp} {x y : V} {v u : Value} {Q : VK} (hu : X.A.units + 64 < cLine) (M : MeR X c o.nm fa j S) (hb : owB X.K o (He.ga X.K c) fa = true) (hr : Room (j + 1) X.A) (tk : Takes X W) (I : Inv X pins σ H s) (rx : RelV x v) (ry : RelV y u)
    (h : if o.flip = true then rOw X.K W σ o c S Q y x H else rOw X.K W σ o c S Q x y H) : wpAny (model X.prog X.w) X.A (compareOp op v u) (EP X pins σ Q) X.xe s := by
  cases o <;> first | (cases ho; done) | skip
  all_goals cases ho
  · exact ow_cmp (.inl ⟨rfl, rfl⟩) hu M hr tk I rx ry h
  · exact ow_ne hu M hb hr tk I rx ry h
  · exact ow_cmp (.inr ⟨rfl, rfl⟩) hu M hr tk I rx ry h
  · exact ow_in (.inl ⟨rfl, rfl⟩) M hr tk I rx ry h
  · exact ow_in (.inr ⟨rfl, rfl⟩) M hr tk I rx ry h
  · exact ow_eqd hu M hb hr tk I rx ry h
theorem d_owB {o : Oo} {op : Operator} (ho : o.bop = some op) {l r : Expr} {pos : Pos} {a b : E} (M : MeR X c o.nm fa j S) (hb : owB X.K o (He.ga X.K c) fa = true) (hr : Room (j + 1) X.A) (tk : Takes X W) (hl : PE X l (tE X.K pn W a)) (hr' : PE X r (tE X.K pn W b)) :
    PE X (.BinOp l op r pos) (tE X.K pn W (.ow o a b c S)) := by
  refine ⟨fun pins s σ H Q I h => ?_⟩
  refine wpAny_BinOp (binT hl hr' I (R := fun x y H2 => if o.flip = true then rOw X.K W σ o c S Q y x H2 else rOw X.K W σ o c S Q x y H2) (ow_conv h) fun v u s2 x y H2 I2 rx ry q => ?_)
  cases o <;> first | (cases ho; done) | skip
  all_goals cases ho
  · exact ow_bin (.inl ⟨rfl, rfl⟩) M hb hr tk I2 rx ry q
  · exact ow_bin (.inr ⟨rfl, rfl⟩) M hb hr tk I2 rx ry q
  · exact ow_ror M hb hr tk I2 rx ry q
theorem d_owC {o : Oo} {op : CmpOp} (ho : o.cop = some op) {l r : Expr} {pos : Pos} {a b : E} (hu : X.A.units + 64 < cLine) (M : MeR X c o.nm fa j S) (hb : owB X.K o (He.ga X.K c) fa = true) (hr : Room (j + 1) X.A) (tk : Takes X W) (hl : PE X l (tE X.K pn W a)) (hr' : PE X r (tE X.K pn W b)) (hm : behindInMarks op r = false) :
    PE X (.Compare l [op] [r] pos) (tE X.K pn W (.ow o a b c S)) := by
  refine ⟨fun pins s σ H Q I h => ?_⟩
  exact wpAny_Compare1 (binT hl hr' I (R := fun x y H2 => if o.flip = true then rOw X.K W σ o c S Q y x H2 else rOw X.K W σ o c S Q x y H2) (ow_conv h) fun v u s2 x y H2 I2 rx ry q => ow_cop ho hu M hb hr tk I2 rx ry q) hm
theorem ow_bl {o : Oo} {op : CmpOp} (ho : o.cop = some op) {a b : E} {ρ : Rho} {μ : Mu} {P : QV} {Z : QX} (h : wpE (.ow o a b c S) ρ μ P Z) : wpE (.ow o a b c S) ρ μ (fun rv m => (∃ z, rv = .dat (.bl z)) ∧ P rv m) Z := by
  have bk : ∀ rv m, o.back P rv m → o.back (fun rv m => (∃ z, rv = .dat (.bl z)) ∧ P rv m) rv m := by
    intro rv m q
    cases o <;> first | (cases ho; done) | (obtain ⟨z, e, q⟩ := q; exact ⟨z, e, ⟨_, rfl⟩, q⟩)
  simp only [wpE] at h ⊢
  exact wpE.imp a h (fun _ _ h => wpE.imp b h (fun _ _ h => ⟨h.1, h.2.1, iteImp h.2.2 (fun h => ⟨h.1, h.2.1, S.mono _ _ _ _ _ _ h.2.2 bk fun _ _ z => z⟩) fun h => ⟨h.1, h.2.1, S.mono _ _ _ _ _ _ h.2.2 bk fun _ _ z => z⟩⟩) fun _ _ z => z) fun _ _ z => z
theorem dt_owC {o : Oo} {op : CmpOp} (ho : o.cop = some op) {l r : Expr} {pos : Pos} {a b : E} (hu : X.A.units + 64 < cLine) (M : MeR X c o.nm fa j S) (hb : owB X.K o (He.ga X.K c) fa = true) (hr : Room (j + 1) X.A) (tk : Takes X W) (hl : PE X l (tE X.K pn W a)) (hr' : PE X r (tE X.K pn W b)) (hm : behindInMarks op r = false) :
    PT X (.Compare l [op] [r] pos) (tT X.K pn W (.v (.ow o a b c S))) := by
  refine ⟨fun pins s σ H Q I h => ?_⟩
  have h' : tE X.K pn W (.ow o a b c S) σ H (fun x H' => ∃ k, x = .bl k ∧ Q k H') := by
    obtain ⟨F, α, ρ, μ, hd, sl, w⟩ := h
    refine ⟨F, α, ρ, μ, hd, sl, wpE.imp _ (ow_bl ho w) (fun rv μ1 p v F1 α1 H1 g1 h1 r1 => ?_) fun _ _ z => z⟩
    obtain ⟨⟨z, rfl⟩, p⟩ := p
    obtain ⟨d, e1, p⟩ := opt.of p
    cases e1
    obtain ⟨z', e2, p⟩ := opt.of p
    cases e2
    cases r1
    exact ⟨z, rfl, p F1 α1 H1 g1 h1⟩
  refine wpAny_isTrue_Compare1 (thn (hl.run pins s σ H _ I (ow_conv h')) fun v s1 ⟨x, H1, I1, r1, q1⟩ => thn (hr'.run pins s1 σ H1 _ I1 q1) fun u s2 ⟨y, H2, I2, r2, q2⟩ =>
    thn (ow_cop ho hu M hb hr tk I2 r1 r2 q2) fun c s3 ⟨z, H3, I3, r3, k, e, q3⟩ => ?_) hm
  subst e
  cases r3
  exact wpAny_truthy_bool ⟨H3, I3, q3⟩
theorem d_owI {l r : Expr} {pos : Pos} {a b : E} (M : MeR X c "__getitem__" fa j S) (hb : owB X.K .ix (He.ga X.K c) fa = true) (hr : Room (j + 1) X.A) (tk : Takes X W) (hl : PE X l (tE X.K pn W a)) (hr' : PE X r (tE X.K pn W b)) (hs : ∀ v u, subscripted r true v u = runValue (.builtin "lifetime.subscript" ⟨[v, u], []⟩)) :
    PE X (.Subscript l r pos) (tE X.K pn W (.ow .ix a b c S)) := by
  refine ⟨fun pins s σ H Q I h => ?_⟩
  exact Subscript_ (binT hl hr' I (R := fun x y H2 => rOw X.K W σ .ix c S Q x y H2) (ow_conv h) fun v u s2 x y H2 I2 rx ry q => ow_ix M hb hr tk I2 rx ry (hs v u) q)
theorem callO_in {as : As} {F F1 H1 : Hp} {α α1 : Al} {ρ : Rho} {σ : L2.St} {μ1 : Mu} {r1 : RV} {v1 : V} {Q : VK} (g1 : Go F F1 α α1) (h1 : Hold X.K F1 H1 α1 μ1) (sl : Slots X.K pn F α ρ σ) (rv1 : RvR X.K pn F1 α1 r1 v1)
    (p : isOf c "__call__" μ1 r1 ∧ wpA as ρ μ1 (fun rs μ2 => isOf c "__call__" μ2 r1 ∧ S.run (r1 :: rs) μ2 (kE X.K pn F α Q) (kX X.K F α σ W)) (kX X.K F α σ W)) :
    ∃ b, v1 = .ref b ∧ tAs X.K pn W as σ H1 fun vs H2 => (∃ dx fs, H2 b = some (.ins (He.ga X.K c) dx fs)) ∧ lift X.K S (.ref b :: vs) H2 Q (fun cls d H' => W cls d σ H') := by
  obtain ⟨p1, p2⟩ := p
  have ok : r1.ok = true := by cases r1 <;> first | rfl | exact p1.elim
  obtain ⟨b, dx, fs, rfl, eb⟩ := inst_of h1 rv1 p1
  refine ⟨b, rfl, F1, α1, ρ, μ1, h1, sl.mono g1, wpA.imp as p2 (fun rs μ2 q vs F2 α2 H2 g2 h2 rv2 => ?_) fun _ _ x => x.go g1⟩
  obtain ⟨q1, q2⟩ := q
  obtain ⟨b', dx', fs', e, eb'⟩ := inst_of h2 (rv1.mono g2) q1
  cases e
  refine ⟨⟨dx', fs', eb'⟩, ?_⟩
  exact lift_in (pn := pn) (rs := r1 :: rs) (g1.trans g2) h2 ⟨(rv1.bare ok).mono g2, rv2⟩ q2
theorem d_callO {fe e : Expr} {es : List Expr} {pos : Pos} {a : E} {as : As} (hf : PE X fe (tE X.K pn W a)) (k : StX.CallO X.K (He.ga X.K c) fa) (G : FnR X.prog X.w X.K X.mg X.base (CX X.prog X.w) j fa (lift X.K S)) (hr : Room j X.A) (tk : Takes X W) (ha : PA X (e :: es) (tAs X.K pn W as))
    (ht : eval (.Call fe (e :: es) [] pos) X.env = (do callWith pos (← eval fe X.env) [] (backTo pos (starEach (e :: es) X.env)) (backToKw pos (keywordEach [] X.env))))
    (he : starEach (e :: es) X.env = (false, eval e X.env) :: starEach es X.env) (hpl : (backTo pos (starEach es X.env)).any (·.1) = false) : PE X (.Call fe (e :: es) [] pos) (tE X.K pn W (.callO a c S as)) := by
  refine ⟨fun pins s σ H Q I h => ?_⟩
  refine Call_ (thn (hf.run pins s σ H (fun y H1 => ∃ b, y = .ref b ∧ tAs X.K pn W as σ H1 fun vs H2 => (∃ dx fs, H2 b = some (.ins (He.ga X.K c) dx fs)) ∧ lift X.K S (.ref b :: vs) H2 Q (fun cls d H' => W cls d σ H')) I ?_) fun u s1 ⟨y, H1, I1, ry, b, ey, q⟩ => ?_) ht
  · obtain ⟨F, α, ρ, μ, h, sl, w⟩ := h
    exact one1 h sl w fun r1 μ1 v1 F1 α1 H1 g1 h1 rv1 p => callO_in g1 h1 sl rv1 p
  subst ey
  obtain rfl : u = Value.ref b := ry
  refine StX.callO_with (thn (ha.run pos pins s1 σ H1 _ I1 q) fun us s2 ⟨vs, H2, I2, r, ⟨dx, fs, hi⟩, q2⟩ => ?_) he hpl
  obtain ⟨ox, od, J, hd⟩ := ins_at I2 hi
  refine ⟨⟨_, ox, od, J, hd⟩, wpAny_call (PySem.W.kco_code I2.kIn J hd k.at_ k.fn k.fi (codeAny_mono (G X.A X.stack s2 H2 (.ref b :: us) (.ref b :: vs) Q _ hr I2.env0 (.cons rfl r) q2) fun r s' hq => ?_))⟩
  cases r with
  | error e => exact tk e s' (XE.of_call I2 (fun _ _ _ h => h) hq)
  | ok fl =>
    cases fl with
    | ret u => exact I2.after hq
    | next => exact False.elim hq
    | brk => exact False.elim hq
    | cont => exact False.elim hq
/-- what is asked of a class for isinstance -/
structure IsC (K : PySem.W.Frag) (C : Addr) : Prop where
  ha : PySem.W.findIn K (.ref C) "__class__" = some (some (.builtin "object.__class__"))
  hn : PySem.W.specialIn K (.builtin "object.__class__") "__get__" = some (some (.builtin "getset_descriptor.__get__"))
  htk : PySem.W.takesIn K (.builtin "object.__class__") = some true
  hm : PySem.W.mroIn K C (.type "object") = some true
  tt : PySem.W.kitOne K (.ref C) (.ref C) = some true
  ff : ∀ t ∈ ["NoneType", "bool", "int", "str", "list", "tuple", "dict"], PySem.W.kitOne K (.type t) (.ref C) = some false
def isCB (K : PySem.W.Frag) (C : Addr) : Bool := He.eqO (PySem.W.findIn K (.ref C) "__class__") (some (some (.builtin "object.__class__"))) && (He.eqO (PySem.W.specialIn K (.builtin "object.__class__") "__get__") (some (some (.builtin "getset_descriptor.__get__"))) &&
  (decide (PySem.W.takesIn K (.builtin "object.__class__") = some true) && (decide (PySem.W.mroIn K C (.type "object") = some true) && (decide (PySem.W.kitOne K (.ref C) (.ref C) = some true) && ["NoneType", "bool", "int", "str", "list", "tuple", "dict"].all fun t => decide (PySem.W.kitOne K (.type t) (.ref C) = some false)))))
theorem isC_of {K : PySem.W.Frag} {C : Addr} (h : isCB K C = true) : IsC K C := by
  unfold isCB at h
  simp only [Bool.and_eq_true] at h
  obtain ⟨h1, h2, h3, h4, h5, h6⟩ := h
  exact ⟨He.eqO_ok h1, He.eqO_ok h2, of_decide_eq_true h3, of_decide_eq_true h4, of_decide_eq_true h5, fun t m => of_decide_eq_true (List.all_eq_true.mp h6 t m)⟩
theorem tyD_mem {d : D} {t : String} (e : tyD d = some t) : t ∈ ["NoneType", "bool", "int", "str", "list", "tuple", "dict"] := by
  cases d <;> first | (cases e; done) | (cases e; decide)
theorem d_isiO {e ex : Expr} {p pos : Pos} {a : E} (hg : Gl X "isinstance") (hm : X.mg "isinstance" = none) (cl : Cls X.K (He.ga X.K c)) (ic : IsC X.K (He.ga X.K c)) (h : PE X e (tE X.K pn W a)) {cv : V} (hx : PE X ex (tC cv)) (hu : ∀ u, RelV cv u → u = .ref (He.ga X.K c))
    (he : starEach [e, ex] X.env = (false, eval e X.env) :: starEach [ex] X.env) (he2 : starEach [ex] X.env = (false, eval ex X.env) :: starEach [] X.env) :
    PE X (.Call (.Name "isinstance" p) [e, ex] [] pos) (tE X.K pn W (.isiO a c)) := by
  have key : CallR X (.builtin "isinstance") (fun xs H Q => ∃ v, xs = [v, cv] ∧ ((∃ b dx fs, v = .ref b ∧ H b = some (.ins (He.ga X.K c) dx fs) ∧ Q (.bl true) H) ∨ ∃ d t, R X.K H v d ∧ tyD d = some t ∧ Q (.bl false) H)) := by
    intro pins s σ H xs us Q I rr hh
    obtain ⟨v, rfl, hh⟩ := hh
    obtain ⟨u1, u2, rfl, r1, r2⟩ := vals2 rr
    obtain rfl := hu _ r2
    rcases hh with ⟨b, dx, fs, rfl, eb, q⟩ | ⟨d, t, r, et, q⟩
    · obtain ⟨P, Z, p, hx⟩ := kit_of I r1 (.base (.ins eb cl ic.ha ic.hn ic.htk ic.hm))
      exact PySem.W.kia_one Z I.kIn p ic.tt hx fun tk => ⟨.bl true, H, I.tok tk, rfl, q⟩
    · obtain ⟨P, Z, p, hx⟩ := r.kit I r1 et
      exact PySem.W.kia_one Z I.kIn p (ic.ff _ (tyD_mem et)) hx fun tk => ⟨.bl false, H, I.tok tk, rfl, q⟩
  have hpl : (backTo pos (starEach [ex] X.env)).any (·.1) = false := by rw [he2]; rfl
  refine PE.imp (pe_callB key hg hm PyProof.Rows.boot_isinstance (pa_cons h (pa_cons hx pa_nil he2) he) (by decide) (by decide) he hpl) ?_
  rintro σ H Q ⟨F, α, ρ, μ, hd, sl, w⟩
  refine one1 hd sl w fun r1 μ1 v1 F1 α1 H1 g1 h1 rv1 p => ?_
  refine ⟨v1, rfl, ?_⟩
  rcases p with ⟨p1, p2⟩ | p
  · obtain ⟨b, dx, fs, rfl, eb⟩ := inst_of h1 rv1 p1
    exact .inl ⟨b, dx, fs, rfl, eb, p2 _ F1 α1 H1 g1 h1 (R.bl _)⟩
  · obtain ⟨d, e1, p1, p2⟩ := opt.of p
    obtain ⟨t, et⟩ := Option.isSome_iff_exists.mp p1
    exact .inr ⟨d, t, h1.see rv1 e1, et, p2 _ F1 α1 H1 g1 h1 (R.bl _)⟩
end
end DL

namespace DL
open PySem PySem.Spec PyProof.Rows L2

section
variable {prog : Program} {w : World} {A : Around} {E : Value → Shared → Prop} {s : Shared}
theorem dictPut_ok {d : Addr} {kvs : List (Key × Value)} {k : Key} {key v : Value} {Q : Unit → Shared → Prop} (hkey : keyIs k key = true) (hm : s.heap.DictOf (mixKind prog w) d kvs)
    (hQ : ∀ h', h'.DictOf (mixKind prog w) d (stored kvs k v) → Heap.SameBut d s.heap h' → Q () { s with heap := h' }) (hsz : kvs.length ≤ sizeLine) :
    wpAny (model prog w) A (dictPut d ((mixKind prog w).hash k) key v) Q E s := by
  obtain ⟨o, es, ep, ho, hc, hd, hk, hp, hn⟩ := hm
  have hes : es.size ≤ sizeLine := by have e1 := hp.length; have e2 : es.toList.length = es.size := by simp
                                      omega
  unfold dictPut
  refine wpAny_bind (wpAny_dictFind_of (knd := mixKind prog w) hkey ho hd hk ?_)
  have hidx : (es.findIdx? fun e => (mixKind prog w).is k e.key) = kvs.findIdx? fun kv => decide (kv.1 = k) := by
    rw [← hp.findIdx k]; obtain ⟨l⟩ := es; simp
  cases hi : es.findIdx? fun e => (mixKind prog w).is k e.key with
  | some i =>
    refine wpAny_updateDict ho hd (hQ _ ⟨_, _, ep, Heap.get?_update_self _ ho (Obj.isFreed_of_dict (Obj.data_mapDict hd _)), hc.mapDict _, Obj.data_mapDict hd _, hk.modify _ _, ?_, ?_⟩ (Heap.SameBut.update ..))
    · rw [stored, if_pos (any_of_findIdx_some (hidx ▸ hi))]
      have hl : (es.toList.findIdx? fun e => (mixKind prog w).is k e.key) = some i := by rw [← hi]; obtain ⟨l⟩ := es; simp
      have := hp.modify hn hl v
      obtain ⟨l⟩ := es
      simpa using this
    · rw [stored, if_pos (any_of_findIdx_some (hidx ▸ hi)), keys_map_store]; exact hn
  | none =>
    have hnot : k ∉ kvs.map (·.1) := not_mem_of_findIdx_none (hidx ▸ hi)
    have out : ¬ (kvs.any fun kv => decide (kv.1 = k)) = true := fun z => by
      obtain ⟨kv, m, e⟩ := List.any_eq_true.mp z
      exact hnot (List.mem_map.mpr ⟨kv, m, of_decide_eq_true e⟩)
    refine wpAny_updateDictKeys (hz := hes) ho hd (hQ _ ⟨_, _, ep + 1, Heap.get?_update_self _ ho (Obj.isFreed_of_dict (Obj.data_mapDictKeys hd _)), hc.mapDictKeys _, Obj.data_mapDictKeys hd _, hk.push hkey _, ?_, ?_⟩ (Heap.SameBut.update ..))
    · rw [stored, if_neg out]
      have := hp.append hkey ((mixKind prog w).hash k) v
      obtain ⟨l⟩ := es
      simpa using this
    · rw [stored, if_neg out, List.map_append, List.nodup_append]
      refine ⟨hn, by simp, fun x hx y hy => ?_⟩
      simp only [List.map_cons, List.map_nil, List.mem_singleton] at hy
      subst hy
      exact fun e => hnot (e ▸ hx)
theorem merge_ok {d o : Addr} {kvs more : List (Key × Value)} {Q : Unit → Shared → Prop} (hdo : d ≠ o) (hoS : (o == sysModules) = false) (hd : s.heap.DictOf (mixKind prog w) d kvs) (ho : s.heap.DictOf (mixKind prog w) o more) (hsz : kvs.length + more.length ≤ sizeLine)
    (hQ : ∀ h', h'.DictOf (mixKind prog w) d (merged kvs more) → Heap.SameBut d s.heap h' → Q () { s with heap := h' }) : wpAny (model prog w) A (mergeMapping d (.ref o) false) Q E s := by
  obtain ⟨od, esd, epd, hod, hcd, hdd, hkd, hpd, hnd⟩ := id hd
  obtain ⟨oo, eso, epo, hoo, hco, hdo', hko, hpo, hno⟩ := id ho
  have hlen : more.length = eso.size := by rw [← hpo.length]; simp
  unfold mergeMapping
  refine wpAny_bind (wpAny_isInstance ho.typeIs isSubtype_dict_dict ?_)
  simp only [if_true]
  refine wpAny_bind (wpAny_specialOf ho.typeIs PySem.F.slot_dict_iter.lookup ?_)
  simp only [beq_self_eq_true, hoS, Bool.false_eq_true, if_false]
  have loop : wpAny (model prog w) A (do
      let __do_lift ← dictEntries o
      let epoch ← dictEpoch o
      forIn (List.range __do_lift.size) PUnit.unit fun i (_ : PUnit) => (do
        let l ← dictEntries o
        match l[i]? with
          | some e => do
            holding [e.key, e.val] (dictPut d e.hash e.key e.val)
            let ep ← dictEpoch o
            if (ep != epoch) = true then do
                (unsupported "dict.changed-during-merge" : Sem PUnit)
                pure (ForInStep.yield PUnit.unit)
              else pure (ForInStep.yield PUnit.unit)
          | x => do
            (unsupported "dict.changed-during-merge" : Sem PUnit)
            pure (ForInStep.yield PUnit.unit) : Sem (ForInStep PUnit))
      pure ()) Q E s := by
    refine wpAny_bind (wpAny_dictEntries hoo hdo' (wpAny_bind (wpAny_dictEpoch hoo hdo' (wpAny_bind ?_))))
    refine wpAny_forIn_list _ (fun rest _ s' => ∃ h' i, s' = { s with heap := h' } ∧ rest = List.range' i (eso.size - i) ∧ i ≤ eso.size ∧ h'.DictOf (mixKind prog w) d (merged kvs (more.take i)) ∧ h'.get? o = some oo ∧ Heap.SameBut d s.heap h')
      _ ?_ ?_ _ _ ⟨s.heap, 0, rfl, by rw [List.range_eq_range']; simp, Nat.zero_le _, by simpa [merged] using hd, hoo, Heap.SameBut.refl _ _⟩
    · rintro x rest b s' ⟨h', i, rfl, hr, hi, hd', hoo', hs'⟩
      have hlt : i < eso.size := Nat.lt_of_not_le fun z => by rw [Nat.sub_eq_zero_of_le z] at hr; cases hr
      have e : eso.size - i = (eso.size - (i + 1)) + 1 := by omega
      rw [e, List.range'_succ] at hr
      injection hr with r1 r2
      subst r1
      refine wpAny_bind (wpAny_dictEntries hoo' hdo' ?_)
      rw [Array.getElem?_eq_getElem hlt]
      obtain ⟨kv, hkv⟩ : ∃ kv, more[x]? = some kv := ⟨more[x]'(by rw [hlen]; exact hlt), List.getElem?_eq_getElem _⟩
      obtain ⟨k, v⟩ := kv
      obtain ⟨hkey, hval⟩ := hpo.get? (e := eso[x]) (by simp [hlt]) hkv
      obtain ⟨k', hkey', hhash⟩ := hko eso[x] (Array.getElem_mem hlt)
      obtain rfl : k' = k := (mixKind prog w).inj _ _ _ hkey' hkey
      show wpAny _ _ (holding [eso[x].key, eso[x].val] (dictPut d eso[x].hash eso[x].key eso[x].val) >>= _) _ _ _
      rw [hhash, hval]
      have hmx : (merged kvs (more.take x)).length ≤ sizeLine := by
        have e1 := merged_length_le kvs (more.take x)
        have e2 : (more.take x).length ≤ more.length := by rw [List.length_take]; omega
        omega
      refine wpAny_bind (wpAny_holding (dictPut_ok (hsz := hmx) hkey hd' fun h'' hd'' hs'' => ?_))
      have hoo'' : h''.get? o = some oo := (hs''.2 o (Ne.symm hdo)).trans hoo'
      refine wpAny_bind (wpAny_dictEpoch hoo'' hdo' ?_)
      rw [if_neg (by simp)]
      exact wpAny_pure ⟨h'', x + 1, rfl, r2, hlt, by rw [merged_take_succ kvs more x (k', v) hkv]; exact hd'', hoo'', hs'.trans hs''⟩
    · rintro b s' ⟨h', i, rfl, hr, hi, hd', hoo', hs'⟩
      have hin : i = eso.size := Nat.le_antisymm hi (Nat.le_of_not_lt fun z => by
        rw [show eso.size - i = (eso.size - (i + 1)) + 1 by omega, List.range'_succ] at hr; cases hr)
      rw [hin, ← hlen, List.take_length] at hd'
      exact wpAny_pure (hQ h' hd' hs')
  refine wpAny_bind (wpAny_pure ?_)
  simp only [hoS, Bool.false_eq_true, if_false]
  refine wpAny_bind (wpAny_dictEntries hod hdd ?_)
  split
  · refine wpAny_bind (wpAny_dictEntries hoo hdo' ?_)
    refine wpAny_bind ?_
    rw [← Array.forIn_toList]
    refine wpAny_forIn_list _ (fun rest _ s' => s' = s ∧ ∀ e ∈ rest, e ∈ eso.toList) _ ?_ ?_ _ _ ⟨rfl, fun e m => m⟩
    · rintro x rest b s' ⟨rfl, hr⟩
      obtain ⟨k, hk, _⟩ := hko x (by have := hr x (List.mem_cons_self ..); simpa using this)
      rcases keyIs_shape hk with ⟨i, t, _, e⟩ | ⟨z, t, _, e⟩
      · rw [e]; exact wpAny_pure ⟨rfl, fun e m => hr e (List.mem_cons_of_mem _ m)⟩
      · rw [e]; exact wpAny_pure ⟨rfl, fun e m => hr e (List.mem_cons_of_mem _ m)⟩
    · rintro b s' ⟨rfl, _⟩
      exact loop
  · exact loop
end
end DL

namespace DL
open PySem PySem.Spec PyProof.Rows L2
section
variable {prog : Program} {w : World} {A : Around} {E : Value → Shared → Prop} {s : Shared}
theorem disp2 {va vb : Sem Value} {Q : Value → Shared → Prop}
    (h : wpAny (model prog w) A va (fun m s1 => wpAny (model prog w) A (mergeMapping s.heap.objs.size m false) (fun _ s2 => wpAny (model prog w) A vb (fun m2 s3 => wpAny (model prog w) A (mergeMapping s.heap.objs.size m2 false) (fun _ s4 => Q (.ref s.heap.objs.size) s4) (fun _ _ => False) s3) E s2) (fun _ _ => False) s1) E { s with heap := s.heap.push { cls := .type "dict", data := .dict #[] } }) :
    wpAny (model prog w) A (dictDisplay [(none, va), (none, vb)]) Q E s := by
  unfold dictDisplay
  simp only [List.forIn_cons, List.forIn_nil, List.isEmpty_nil, if_true]
  refine wpAny_bind (wpAny_bind (wpAny_bind (wpAny_pure ?_)))
  dsimp only
  refine wpAny_bind (wpAny_alloc ?_)
  refine wpAny_bind (wpAny_holding (wpAny_mono h (fun m s1 h1 => ?_) fun _ _ e => e))
  refine wpAny_bind (wpAny_onRaise (wpAny_tryCatch (wpAny_onRaise (wpAny_holding (wpAny_mono h1 (fun _ s2 h2 => ?_) fun _ _ z => z.elim)))))
  refine wpAny_pure ?_
  dsimp only
  refine wpAny_bind (wpAny_bind (wpAny_pure ?_))
  dsimp only
  refine wpAny_bind (wpAny_pure ?_)
  refine wpAny_bind (wpAny_holding (wpAny_mono h2 (fun m s1 h1 => ?_) fun _ _ e => e))
  refine wpAny_bind (wpAny_onRaise (wpAny_tryCatch (wpAny_onRaise (wpAny_holding (wpAny_mono h1 (fun _ s2 h2 => ?_) fun _ _ z => z.elim)))))
  refine wpAny_pure ?_
  dsimp only
  refine wpAny_pure ?_
  dsimp only
  refine wpAny_bind (wpAny_pure ?_)
  exact wpAny_pure h2
end
def mrgV (kvs more : List (Key × V)) : List (Key × V) := more.foldl (fun a q => putK a q.1 q.2) kvs
theorem mrgV_len : ∀ (more kvs : List (Key × V)), (mrgV kvs more).length ≤ kvs.length + more.length
  | [], _ => Nat.le_refl _
  | q :: more, kvs => by
    have h1 := mrgV_len more (putK kvs q.1 q.2)
    have h2 := length_putK kvs q.1 q.2
    show (mrgV (putK kvs q.1 q.2) more).length ≤ kvs.length + (more.length + 1)
    omega
theorem mrgV_kv : ∀ {more : List (Key × V)} {ws : List (Key × Value)}, KV more ws → ∀ {kvs : List (Key × V)} {vs : List (Key × Value)}, KV kvs vs → KV (mrgV kvs more) (merged vs ws)
  | [], _, .nil, _, _, r => r
  | (k, v) :: more, (_, u) :: ws, .cons ⟨e, h⟩ t, kvs, vs, r => by
    obtain rfl : k = _ := e
    exact mrgV_kv t (r.put k h)
theorem mrgV_rk {K : PySem.W.Frag} {F : Hp} : ∀ {more : List (Key × V)} {ds : List (Key × D)}, RK K F more ds → ∀ {kvs : List (Key × V)} {k0 : List (Key × D)}, RK K F kvs k0 → RK K F (mrgV kvs more) (mrgD k0 ds)
  | _, _, .nil, _, _, r => r
  | _, _, .cons h t, _, _, r => mrgV_rk t (RK.put h r)
section
variable {X : Cx} {W : WX} {pn : List (Addr × Obj)}
theorem d_sortK (hu : X.A.units + 64 < cLine) (hgd : X.A.guards = some []) {p p2 kp pos : Pos} {e : Expr} {a : E} (hg : Gl X "sorted") (hm : X.mg "sorted" = none) (hg2 : Gl X "str") (hm2 : X.mg "str" = none) (he : PE X e (tE X.K pn W a)) (hst : ∀ x p, e ≠ .Starred x p) :
    PE X (.Call (.Name "sorted" p) [e] [⟨some "key", .Name "str" p2, kp⟩] pos) (tE X.K pn W (.sortK a)) := by
  have hs := notStar hst [] X.env
  have hty : PE X (.Name "str" p2) (tC (.ty "str")) := pe_bltn hg2 hm2 PyProof.Rows.boot_str rfl
  refine PE.imp (pe_callBK (cr_sortK hu hgd) hg hm PyProof.Rows.boot_sorted (pa_cons he pa_nil hs) (pk_cons hty pk_nil) (by decide) (by decide) (by rw [hs]; rfl) (by rw [hs]; rfl)) ?_
  rintro σ H Q ⟨F, α, ρ, μ, h, sl, w⟩
  refine one1 h sl w fun r1 μ1 v1 F1 α1 H1 g1 h1 rv1 p => ?_
  obtain ⟨d, e1, p⟩ := opt.of p
  cases d with
  | lst xs =>
    obtain ⟨aa, vs, rfl, s1, l1⟩ := h1.items rv1 e1
    exact ⟨aa, vs, xs, F1, rfl, rfl, .inl s1, h1.le, l1, p.1, fun l ys nl rl => (kD.ofE g1 _ p.2).lst h1 nl rl⟩
  | _ => exact p.elim
theorem mrg_step {pins : List (Addr × Obj)} {s : Shared} {σ : L2.St} {F H : Hp} {α : Al} {μ : Mu} {l : Nat} {p : Addr} {r : RV} {v : V} {u : Value} {k : Mu → Prop} {A : Around} {E : Value → Shared → Prop} {Q : Unit → Shared → Prop} (I : Inv X pins σ H s) (h : Hold X.K F H α μ) (get : α.as[l]? = some p) (rv : RvR X.K pn F α r v) (ru : RelV v u) (m : mrgAt l r μ k)
    (fin : ∀ H' s' μ', Inv X pins σ H' s' → Hold X.K F H' α μ' → k μ' → Q () s') : wpAny (model X.prog X.w) A (mergeMapping p u false) Q E s := by
  obtain ⟨na, m⟩ := m
  obtain ⟨d, e1, m⟩ := opt.of m
  obtain ⟨o, e2, m⟩ := opt.of m
  have dd : ∃ kvs k0, d = .dic kvs ∧ o = .dic k0 ∧ k0.length + kvs.length ≤ 16777216 ∧ k (μ.set l (.dic (mrgD k0 kvs))) := by
    cases d <;> cases o <;> first | exact m.elim | exact ⟨_, _, rfl, rfl, m⟩
  obtain ⟨kvs, k0, rfl, rfl, hz, m⟩ := dd
  obtain ⟨aa, vs, rfl, rd, rk⟩ := h.dk rv e1
  obtain rfl : u = Value.ref aa := ru
  obtain ⟨nF, ws, eH, rk0⟩ := h.ob l p _ get e2
  have ne : p ≠ aa := by
    rintro rfl
    cases r with
    | dat d' =>
      cases e1
      cases rv with
      | dK s1 _ => rcases s1 with z | ⟨_, z⟩ <;> (rw [nF] at z; cases z)
    | loc i =>
      obtain ⟨b, eb, e⟩ := rv
      cases e
      exact na ((List.getElem?_inj (List.getElem?_eq_some_iff.mp eb).1 h.nd).mp (eb.trans get.symm))
    | exc _ _ => cases e1
    | since _ _ _ => cases e1
  obtain ⟨z1, s1, w1, k1, d1⟩ := dk_of I.hok eH
  obtain ⟨z2, s2, w2, k2, d2⟩ := dk_rd I.hok rd
  have l1 : ws.length = k0.length := rk0.length
  have l2 : vs.length = kvs.length := rk.length
  have hl : ws.length + vs.length ≤ sizeLine := by rw [line_eq]; omega
  refine merge_ok ne s2 d1 d2 (by rw [← k1.length, ← k2.length]; exact hl) fun h' dd hs => ?_
  have he : ∃ q, h'.get? p = some q := let ⟨q, _, _, hq, _⟩ := dd; ⟨q, hq⟩
  refine fin (upd H p (.dK (mrgV ws vs))) _ _ (d_write (t' := s.toks) I (by rw [eH]; exact True.intro) hs he (dk_new (Nat.le_trans (mrgV_len vs ws) hl) s1 (mrgV_kv k2 k1) dd)) (h.write (o := .dic (mrgD k0 kvs)) get nF eH (fun x z => nomatch z) ⟨nF, _, upd_same, mrgV_rk rk rk0⟩) m
theorem go_get {F F' : Hp} {α α' : Al} {l : Nat} {p : Addr} (g : Go F F' α α') (e : α.as[l]? = some p) : α'.as[l]? = some p := by
  obtain ⟨_, _, more, z⟩ := g
  rw [z, List.getElem?_append_left (List.getElem?_eq_some_iff.mp e).1]
  exact e
theorem d_dmrg {ea eb : Expr} {pos : Pos} {a b : E} (ha : PE X ea (tE X.K pn W a)) (hb : PE X eb (tE X.K pn W b)) : PE X (.Dict [none, none] [ea, eb] pos) (tE X.K pn W (.dmrg a b)) := by
  refine ⟨fun pins s σ H Q I z => ?_⟩
  obtain ⟨F, α, ρ, μ, hd, sl, w⟩ := z
  show wpAny _ _ (do standAt pos; dictDisplay [(none, do let x ← eval ea X.env; standAt pos; pure x), (none, do let x ← eval eb X.env; standAt pos; pure x)]) _ _ _
  refine wpAny_bind (wpAny_standAt (disp2 ?_))
  have np : H s.heap.objs.size = none := I.hok.fresh (Nat.le_refl _)
  have nh : α.hid s.heap.objs.size = none := by
    cases q : α.hid s.heap.objs.size with
    | none => rfl
    | some ws => have := (hd.hd _ ws q).1; rw [np] at this; cases this
  obtain ⟨h0, g0⟩ := (hd.add (u := .dK []) np).own (p := s.heap.objs.size) (o := .dic []) (by rw [upd_same]; simp) (fun z => hd.al _ z np) nh ⟨hd.fr _ np, [], upd_same, .nil⟩
  have get0 : (α.as ++ [s.heap.objs.size])[μ.length]? = some s.heap.objs.size := by rw [← hd.len]; simp
  have I0 : Inv X pins σ (upd H s.heap.objs.size (.dK [])) { s with heap := s.heap.push { cls := .type "dict", data := .dict #[] } } :=
    I.laid (t' := s.toks) (fun b o e => Heap.get?_push_of_some _ e) (Nat.le_refl _) (dk_new (by rw [line_eq]; decide) (beq_eq_false_iff_ne.mpr (Ne.symm (Nat.ne_of_lt I.big))) .nil (Heap.DictOf.new s.heap))
  refine wpAny_bind (thn (ha.run pins _ σ _ (fun v1 H1 => ∃ F1 α1 μ1 r1, Go F F1 α α1 ∧ Hold X.K F1 H1 α1 μ1 ∧ α1.as[μ.length]? = some s.heap.objs.size ∧ RvR X.K pn F1 α1 r1 v1 ∧
      mrgAt μ.length r1 μ1 fun μ1 => wpE b ρ μ1 (fun r2 μ2 => mrgAt μ.length r2 μ2 fun μ2 => kE X.K pn F α Q (.loc μ.length) μ2) (kX X.K F α σ W)) I0
    ⟨F, _, ρ, _, h0, sl.mono g0, wpE.imp a w (fun r1 μ1 m v1 F1 α1 H1 g1 h1 rv1 => ⟨F1, α1, μ1, r1, g0.trans g1, h1, go_get g1 get0, rv1, m⟩) fun _ _ x => x.go g0⟩) fun u1 s1 ⟨v1, H1, I1, ru1, F1, α1, μ1, r1, g1, h1, get1, rv1, m1⟩ => ?_)
  refine wpAny_bind (wpAny_standAt (wpAny_pure ?_))
  refine mrg_step I1 h1 get1 rv1 ru1 m1 fun H2 s2 μ2 I2 h2 k2 => ?_
  refine wpAny_bind (thn (hb.run pins _ σ _ (fun v3 H3 => ∃ F3 α3 μ3 r3, Go F F3 α α3 ∧ Hold X.K F3 H3 α3 μ3 ∧ α3.as[μ.length]? = some s.heap.objs.size ∧ RvR X.K pn F3 α3 r3 v3 ∧ mrgAt μ.length r3 μ3 fun μ3 => kE X.K pn F α Q (.loc μ.length) μ3) I2
    ⟨F1, α1, ρ, μ2, h2, sl.mono g1, wpE.imp b k2 (fun r3 μ3 m v3 F3 α3 H3 g3 h3 rv3 => ⟨F3, α3, μ3, r3, g1.trans g3, h3, go_get g3 get1, rv3, m⟩) fun _ _ x => x.go g1⟩) fun u3 s3 ⟨v3, H3, I3, ru3, F3, α3, μ3, r3, g3, h3, get3, rv3, m3⟩ => ?_)
  refine wpAny_bind (wpAny_standAt (wpAny_pure ?_))
  refine mrg_step I3 h3 get3 rv3 ru3 m3 fun H4 s4 μ4 I4 h4 k4 => ?_
  exact ⟨.ref s.heap.objs.size, H4, I4, rfl, k4 _ F3 α3 H4 g3 h4 ⟨_, get3, rfl⟩⟩
end
end DL

namespace DL
open PySem PySem.Spec PyProof.Rows L2
section
variable {X : Cx} {pn : List (Addr × Obj)} {W : WX}
theorem txts_in {F H : Hp} {α : Al} {μ : Mu} {rv : RV} {v : V} {d : D} {ss : List Str} (h : Hold X.K F H α μ) (r : RvR X.K pn F α rv v) (e : vw μ rv = some d) (et : txtsD d = some ss) :
    ∃ a, v = .ref a ∧ (SqL X.K H a (ss.map V.str) ∨ SqT X.K H a (ss.map V.str)) := by
  unfold txtsD at et
  split at et
  · obtain ⟨a, vs, rfl, s1, l1⟩ := h.items r e
    cases strs_rel et l1
    exact ⟨a, rfl, .inl (.inl s1)⟩
  · obtain ⟨a, vs, rfl, s1, _, l1⟩ := h.itemsT r e
    cases strs_rel et l1
    exact ⟨a, rfl, .inr s1⟩
  · cases et
theorem d_sorset (hc : X.calm = true) (hu : X.A.units + 64 < cLine) {p p2 q pos : Pos} {e : Expr} {a : E} (hg : Gl X "sorted") (hm : X.mg "sorted" = none) (hg2 : Gl X "set") (hm2 : X.mg "set" = none) (he : PE X e (tE X.K pn W a)) (hst : ∀ x p, e ≠ .Starred x p) :
    PE X (.Call (.Name "sorted" p) [.Call (.Name "set" p2) [e] [] q] [] pos) (tE X.K pn W (.sorset a)) := by
  have hs := notStar hst [] X.env
  have hi := pe_callTy (p := p2) (pos := q) (cr_setT hc) hg2 hm2 (show bootBuiltins "set" = some (.type "set") by first | rfl | kernel_rfl) (pa_cons he pa_nil hs) (by decide) (by decide) hs rfl
  have hs2 := notStar (e := .Call (.Name "set" p2) [e] [] q) (fun _ _ z => nomatch z) [] X.env
  refine PE.imp (pe_callB (cr_sortT hc hu) hg hm PyProof.Rows.boot_sorted (pa_cons hi pa_nil hs2) (by decide) (by decide) hs2 rfl) ?_
  rintro σ H Q ⟨F, α, ρ, μ, h, sl, w⟩
  refine one1 h sl w fun r1 μ1 v1 F1 α1 H1 g1 h1 rv1 z => ?_
  obtain ⟨d, e1, z⟩ := opt.of z
  obtain ⟨ss, e2, z⟩ := opt.of z
  obtain ⟨aa, rfl, hq⟩ := txts_in h1 rv1 e1 e2
  refine ⟨aa, ss, rfl, hq, z.1, fun t nt => ⟨t, _, rfl, upd_same, fun l nl => ?_⟩⟩
  exact (kD.ofE g1 _ z.2).lst (h1.add nt) nl (strs_rl _ _ _)
theorem d_addO {l r : Expr} {pos : Pos} {a b : E} (hl : PE X l (tE X.K pn W a)) (hr : PE X r (tE X.K pn W b)) : PE X (.BinOp l .Add r pos) (tE X.K pn W (.addO a b)) := by
  refine PE.imp (pe_op op_catS hl hr) ?_
  rintro σ H Q ⟨F, α, ρ, μ, h, sl, w⟩
  refine two2 h sl w fun r1 r2 μ2 v1 v2 F2 α2 H2 g2 h2 rv1 rv2 z => ?_
  obtain ⟨d, e1, z⟩ := opt.of z
  obtain ⟨e, e2, z⟩ := opt.of z
  cases d <;> first | exact z.elim | skip
  cases e <;> first | exact z.elim | skip
  obtain ⟨a1, vs, rfl, s1, l1⟩ := h2.items rv1 e1
  obtain ⟨b1, ws, rfl, s2, l2⟩ := h2.items rv2 e2
  refine ⟨a1, b1, vs, ws, rfl, rfl, s1, s2, by rw [l1.length, l2.length, line_eq]; exact z.1, fun p np => kE.lst g2 z.2 h2 np (l1.append l2)⟩
theorem mt_cnt : MtR X "list.count" (fun x xs H Q => ∃ (a : Addr) (ss : List Str) (y : Str), x = .ref a ∧ xs = [.str y] ∧ SqL X.K H a (ss.map V.str) ∧ Q (.int (ss.count y : Nat)) H) := by
  intro pins s σ H x xs v us Q I rx rxs h
  obtain ⟨a, ss, y, rfl, rfl, hs, q⟩ := h
  cases rx
  obtain ⟨u, rfl, t, rfl⟩ := vals1 rxs
  obtain ⟨its, rv, hl, hz⟩ := I.list hs
  have hS : StrsAre its ss := by
    have key : ∀ {ss : List Str} {its : List Value}, Vals (ss.map V.str) its → StrsAre its ss := by
      intro ss
      induction ss with
      | nil => intro its r; cases r; first | exact .nil | trivial
      | cons x ss ih =>
        intro its r
        cases r with
        | cons h1 t1 =>
          obtain ⟨tk, rfl⟩ := h1
          exact .cons x tk (ih t1)
    exact key rv
  refine count_list_strs hl.isList hS ?_
  have e : ∀ ss : List Str, countIn (.str y) (ss.map PyData.str) = ((ss.count y : Nat) : Int) := by
    intro ss
    induction ss with
    | nil => rfl
    | cons z ss ih =>
      rw [List.map_cons, countIn, ih, List.count_cons]
      by_cases c : z = y
      · subst c; simp [same]; omega
      · simp [same, c]
  rw [e]
  exact ⟨.int _, H, I.tok _, ⟨_, rfl⟩, q⟩
theorem d_cnt {o e : Expr} {apos cpos : Pos} {a b : E} (ho : PE X o (tE X.K pn W a)) (he : PE X e (tE X.K pn W b)) (hbase : attributeBase o "count" X.env (eval o X.env) = eval o X.env) (hline : (apos.endLine == cpos.line) = true) (hst : ∀ x p, e ≠ .Starred x p) :
    PE X (.Call (.Attribute o "count" apos) [e] [] cpos) (tE X.K pn W (.cnt a b)) := by
  have hs := notStar hst [] X.env
  refine PE.imp (pe_bm PySem.F.plainAttrs_list PySem.F.slot_list_count PySem.F.type_list_count mt_cnt ho (pa_cons he pa_nil hs) hbase (by rw [hs]; rfl) hline hs rfl) ?_
  rintro σ H Q ⟨F, α, ρ, μ, h, sl, w⟩
  refine one1 h sl w fun r1 μ1 v1 F1 α1 H1 g1 h1 rv1 p => ?_
  obtain ⟨⟨xs0, e0⟩, p⟩ := p
  obtain ⟨a0, vs0, rfl, s0, _⟩ := h1.items rv1 e0
  refine ⟨.inl ⟨rfl, _, .inl s0⟩, ?_⟩
  refine ⟨F1, α1, ρ, μ1, h1, sl.mono g1, wpE.imp b p (fun r2 μ2 p v2 F2 α2 H2 g2 h2 rv2 => ?_) fun _ _ x => x.go g1⟩
  obtain ⟨d, e1, p⟩ := opt.of p
  obtain ⟨f, e2, p⟩ := opt.of p
  cases d <;> first | exact p.elim | skip
  cases f <;> first | exact p.elim | skip
  obtain ⟨ss, e3, p⟩ := opt.of p
  obtain ⟨a1, vs1, e4, s1, l1⟩ := h2.items (rv1.mono g2) e1
  cases strs_rel e3 l1
  have := h2.see rv2 e2
  cases this
  exact ⟨a1, ss, _, e4, rfl, .inl s1, p _ F2 α2 _ (g1.trans g2) h2 (R.int _)⟩
theorem zipD_get : ∀ (xs ys : List D) (i : Nat), (zipD xs ys)[i]? = (xs[i]?).bind fun x => (ys[i]?).map fun y => .tup [x, y]
  | [], ys, i => by simp [zipD]
  | x :: xs, [], i => by cases i <;> simp [zipD]
  | x :: xs, y :: ys, 0 => by simp [zipD]
  | x :: xs, y :: ys, i + 1 => by simp [zipD]; exact zipD_get xs ys i
theorem zipD_len : ∀ (xs ys : List D), (zipD xs ys).length = min xs.length ys.length
  | [], ys => by simp [zipD]
  | x :: xs, [] => by simp [zipD]
  | x :: xs, y :: ys => by simp [zipD, zipD_len xs ys]
theorem itok_zip {K : PySem.W.Frag} {F : Hp} {a b : Addr} {vs ws : List V} {ds es : List D} (h : Rd F a (.lst vs)) (r : RL K F vs ds) (h' : Rd F b (.lst ws)) (r' : RL K F ws es) (hz : vs.length ≤ sizeLine) : ItOk K (Itz K a b) F (zipD ds es) := by
  have hl := r.length
  have hl' := r'.length
  refine ⟨by rw [zipD_len, ← hl, ← line_eq]; omega, fun i H l hi => ?_, fun i H l hi => ⟨vs, ws, .inl (l.rd _ _ rfl h), .inl (l.rd _ _ rfl h'), by rw [zipD_len] at hi; omega⟩, fun i H x H' l y hi => ?_⟩
  · rw [zipD_len] at hi
    have i1 : i < vs.length := by omega
    have i2 : i < ws.length := by omega
    exact ⟨vs, ws, vs[i], ws[i], .inl (l.rd _ _ rfl h), .inl (l.rd _ _ rfl h'), by simp [i1], by simp [i2]⟩
  · obtain ⟨T, x1, x2, rfl, nT, rfl, y1, y2⟩ := y
    obtain ⟨d, e1, q1⟩ := r.get' (y1 vs (.inl (l.rd _ _ rfl h)))
    obtain ⟨e, e2, q2⟩ := r'.get' (y2 ws (.inl (l.rd _ _ rfl h')))
    exact ⟨.tup [d, e], by rw [zipD_get, e1, e2]; rfl, .inr ⟨T, _, _, nT, rfl, rfl, rfl, .cons q1 (.cons q2 .nil)⟩⟩
theorem di_zip {e e2 : Expr} {p pos tpos : Pos} {elts : List Expr} {kk : Nat} {a b : E} (hg : Gl X "zip") (hm : X.mg "zip" = none) (he : PE X e (tE X.K pn W a)) (he2 : PE X e2 (tE X.K pn W b)) (hst : ∀ x p, e ≠ .Starred x p) (hst2 : ∀ x p, e2 ≠ .Starred x p) :
    PI X (.Tuple elts kk tpos) (.Call (.Name "zip" p) [e, e2] [] pos) (tI X.K pn W (.zip a b)) := by
  have hs := notStar hst [e2] X.env
  have hs2 := notStar hst2 [] X.env
  refine PI.imp (RZ.pi_zipA hg hm (pa_cons he (pa_cons he2 pa_nil hs2) hs) hs (by rw [hs2]; rfl)) ?_
  rintro σ H R ⟨F, α, ρ, μ, h, sl, w⟩
  refine one1 h sl w fun r1 μ1 v1 F1 α1 H1 g1 h1 rv1 z => ?_
  obtain ⟨⟨d1, μ2⟩, e1, z⟩ := opt.of z
  obtain ⟨F2, g2, h2, q2⟩ := h1.freeze rv1 e1
  refine ⟨F2, α1, ρ, μ2, h2, sl.mono (g1.trans g2), wpE.imp b z (fun r3 μ3 z v3 F3 α3 H3 g3 h3 rv3 => ?_) fun _ _ x => x.go (g1.trans g2)⟩
  obtain ⟨⟨d4, μ4⟩, e4, z⟩ := opt.of z
  obtain ⟨F4, g4, h4, q4⟩ := h3.freeze rv3 e4
  dsimp only at z
  cases d1 <;> first | exact z.elim | skip
  cases d4 <;> first | exact z.elim | skip
  have q1 := q2.mono (g3.trans g4).1
  cases q1 with
  | lst hs rl =>
    cases q4 with
    | lst hs' rl' =>
      exact ⟨_, _, _, _, rfl, .inl ⟨.inl (h4.le.rd _ _ rfl hs), .inl (h4.le.rd _ _ rfl hs'), z.2 _ F4 α3 H3 (g1.trans (g2.trans (g3.trans g4))) h4 (itok_zip hs rl hs' rl' (by rw [rl.length, line_eq]; exact z.1))⟩⟩
theorem wipe_at (ws : List Nat) (τ : L2.St) (i : Nat) : (L2.wipe τ ws)[i]? = if i ∈ ws then (τ[i]?).map fun _ => none else τ[i]? := by
  induction ws with
  | nil => simp [L2.wipe]
  | cons k ws ih =>
    show ((L2.wipe τ ws).set k none)[i]? = _
    rw [List.getElem?_set, ih, wipe_length]
    by_cases q : k = i
    · subst q
      rw [if_pos rfl, if_pos List.mem_cons_self]
      by_cases hl : k < τ.length
      · rw [if_pos hl, List.getElem?_eq_getElem hl]; rfl
      · rw [if_neg hl, List.getElem?_eq_none (by omega)]; rfl
    · rw [if_neg q]
      by_cases hm : i ∈ ws
      · rw [if_pos hm, if_pos (List.mem_cons_of_mem _ hm)]
      · rw [if_neg hm, if_neg (by simp [hm, Ne.symm q])]
theorem wipe_two {a b : List Nat} {σ σ2 : L2.St} (h : L2.wipe σ2 a = L2.wipe (L2.wipe σ (a ++ b)) a) : L2.wipe σ2 (a ++ b) = L2.wipe σ (a ++ b) := by
  apply List.ext_getElem?
  intro i
  have hi := congrArg (fun l : L2.St => l[i]?) h
  simp only [wipe_at] at hi ⊢
  have hl : σ2.length = σ.length := by
    have := congrArg List.length h
    simpa [wipe_length] using this
  by_cases ha : i ∈ a
  · have : i ∈ a ++ b := List.mem_append_left _ ha
    simp only [this, if_true]
    by_cases hlt : i < σ.length
    · rw [List.getElem?_eq_getElem hlt, List.getElem?_eq_getElem (by omega)]; rfl
    · rw [List.getElem?_eq_none (by omega), List.getElem?_eq_none (by omega)]
  · by_cases hb : i ∈ b
    · have : i ∈ a ++ b := List.mem_append_right _ hb
      simp only [this, if_true]
      by_cases hlt : i < σ.length
      · rw [List.getElem?_eq_getElem hlt, List.getElem?_eq_getElem (by omega)]; rfl
      · rw [List.getElem?_eq_none (by omega), List.getElem?_eq_none (by omega)]
    · have : i ∉ a ++ b := fun z => (List.mem_append.mp z).elim ha hb
      simp only [this, if_false, ha] at hi ⊢
      exact hi
/-- a comprehension's turns, from the inside: p the list that is made -/
structure In2 (X : Cx) (p : Addr) (hid : Addr → Option (List V)) (F : Hp) (as : List Addr) (H : Hp) (n : Nat) (C : List D → Mu → Prop) : Prop where
  ex : ∃ F2 as2 μ2 es vs, Le F F2 ∧ (∃ β, as2 = as ++ β) ∧ Hold X.K F2 H ⟨as2, hset hid p vs⟩ μ2 ∧ RL X.K F2 vs es ∧ es.length ≤ n ∧ C es μ2
theorem slots_hid {K : PySem.W.Frag} {F : Hp} {as : List Addr} {h h' : Addr → Option (List V)} {ρ : Rho} {σ : L2.St} (z : Slots K pn F ⟨as, h⟩ ρ σ) : Slots K pn F ⟨as, h'⟩ ρ σ := by
  refine ⟨z.1, fun i rv e => ?_⟩
  obtain ⟨v, e1, e2⟩ := z.2 i rv e
  refine ⟨v, e1, ?_⟩
  cases rv with
  | dat d => exact e2
  | loc l => exact e2
  | exc c l => exact e2
  | since _ _ _ => exact e2
theorem item_in {J : L2.It} {F F2 H H2 : Hp} {α : Al} {μ : Mu} {ds : List D} {i : Nat} {x : V} (J1 : ItOk X.K J F ds) (l : Le F F2) (h : Hold X.K F2 H α μ) (hi : i < ds.length) (y : J.yld i H x H2) :
    ∃ d, ds.drop i = d :: ds.drop (i + 1) ∧ ∃ F3, Hold X.K F3 H2 α μ ∧ Le F2 F3 ∧ R X.K F3 x d := by
  obtain ⟨d, ed, yy⟩ := J1.yld i H x H2 (l.trans h.le) y hi
  refine ⟨d, ?_, ?_⟩
  · obtain ⟨q1, q2⟩ := List.getElem?_eq_some_iff.mp ed
    rw [List.drop_eq_getElem_cons q1, q2]
  · rcases yy with ⟨rfl, rx⟩ | ⟨T, ys, es, nT, rfl, rfl, rfl, rls⟩
    · exact ⟨F2, h, .refl, rx.mono l⟩
    · obtain ⟨h3, g3⟩ := h.new (u := .tup ys) nT fun _ _ z => nomatch z
      exact ⟨_, h3, g3.1, .tup (SqT.of upd_same) ((rls.mono l).mono g3.1)⟩
theorem lc2_main {own : List (Str × Nat)} {el : E} {t1 t2 : Tg} {it1 it2 : It} {c1 c2 : T} (how : own.map (·.2) = t1.slots ++ t2.slots)
    {σ : L2.St} {H : Hp} {Q : VK} {F : Hp} {α : Al} {ρ : Rho} {μ : Mu} (hd : Hold X.K F H α μ) (sl : Slots X.K [] F α ρ σ) {Kc : List D → Mu → Prop}
    (w : wpI it1 ρ μ (fun ds μ1 => ds.length ≤ 1000 ∧ compL2 (tgD t1) (fun ρ' μ' Q' => wpT c1 ρ' μ' Q' fun _ _ => False) (fun ρ' μ' Q' => wpI it2 ρ' μ' Q' fun _ _ => False) (fun ρ' ds2 μ' Q' => compL (tgD t2) (fun ρ2 μ' Q' => wpT c2 ρ2 μ' Q' fun _ _ => False) (fun ρ2 μ' Q' => wpE el ρ2 μ' Q' fun _ _ => False) (wipeR ρ' t2.slots) ds2 μ' Q') (wipeR ρ (t1.slots ++ t2.slots)) ds μ1 Kc) (kX X.K F α σ W))
    (fin0 : ∀ {F2 : Hp} {as2 : List Addr} {hid : Addr → Option (List V)} {μ2 : Mu} {es : List D} {vs : List V} {p : Addr} {H' : Hp}, Go F F2 α ⟨as2, hid⟩ → Hold X.K F2 H' ⟨as2, hset hid p vs⟩ μ2 → hid p = none → RL X.K F2 vs es → Kc es μ2 → Q (.ref p) H') :
    tLc2 (tI X.K [] W it1) (gOf X.K t1) (tT X.K [] noX c1) (tI X.K [] noX it2) (gOf X.K t2) (tT X.K [] noX c2) (tE X.K [] noX el) (own.map (·.2)) t2.slots σ H Q := by
  refine ⟨F, α, ρ, μ, hd, sl, wpI.imp it1 w (fun ds μ1 w J F1 α1 H1 g1 h1 J1 p np => ?_) fun _ _ x => x⟩
  obtain ⟨hz, w⟩ := w
  rw [how]
  let C2 := fun (ρ' : Rho) (ds2 : List D) (μ' : Mu) (Q' : QD) => compL (tgD t2) (fun ρ2 μ' Q' => wpT c2 ρ2 μ' Q' fun _ _ => False) (fun ρ2 μ' Q' => wpE el ρ2 μ' Q' fun _ _ => False) (wipeR ρ' t2.slots) ds2 μ' Q'
  let C1 := fun (ds : List D) (μ : Mu) (Q : QD) => compL2 (tgD t1) (fun ρ' μ' Q' => wpT c1 ρ' μ' Q' fun _ _ => False) (fun ρ' μ' Q' => wpI it2 ρ' μ' Q' fun _ _ => False) C2 (wipeR ρ (t1.slots ++ t2.slots)) ds μ Q
  let I1 := fun (i : Nat) (H' : Hp) => In2 X p α1.hid F1 α1.as H' (1000 * i) fun es m => C1 (ds.drop i) m fun es2 m2 => Kc (es ++ es2) m2
  have nh : α1.hid p = none := by
    cases q : α1.hid p with
    | none => rfl
    | some ws => have := (h1.hd p ws q).1; rw [np] at this; cases this
  refine ⟨fun i m H' => m = ds.length - i ∧ i ≤ ds.length ∧ I1 i H', ⟨_, rfl, Nat.zero_le _, ⟨F1, α1.as, μ1, [], [], .refl, ⟨[], by simp⟩, h1.hide np, .nil, Nat.zero_le _, w⟩⟩, ?_⟩
  rintro i m H' ⟨rfl, hi, ⟨F2, as2, μ2, es, vs, l2, ⟨β, eβ⟩, h2, rl, hl, cl⟩⟩
  have g2 : Go F F2 α ⟨as2, α1.hid⟩ := g1.trans ⟨l2, rfl, β, eβ⟩
  by_cases hlt : i < ds.length
  · refine .inr ⟨J1.go i H' (l2.trans h2.le) hlt, fun H'' => i + 1 ≤ ds.length ∧ I1 (i + 1) H'', fun H'' n => ⟨_, by omega, rfl, n⟩, fun x H'' y => ?_⟩
    obtain ⟨d, eds, F3, h3, l3, rx⟩ := item_in J1 l2 h2 hlt y
    rw [eds] at cl
    obtain ⟨ρ', eρ, cl⟩ := opt.of cl
    have slw : Slots X.K [] F3 ⟨as2, hset α1.hid p vs⟩ (wipeR ρ (t1.slots ++ t2.slots)) (L2.wipe σ (t1.slots ++ t2.slots)) := Slots.wipe (slots_hid (sl.mono (g2.trans (α'' := ⟨as2, α1.hid⟩) ⟨l3, rfl, [], by simp⟩))) _
    refine tg_in rx h3.le eρ slw fun σ2 sl4 hw => ⟨wipe_two hw, ?_⟩
    refine ⟨F3, _, ρ', μ2, h3, sl4, wpT.imp c1 cl (fun b μ3 cl F4 α4 H4 g4 h4 => ?_) fun _ _ x => x.elim⟩
    have e4 : α4 = ⟨α4.as, hset α1.hid p vs⟩ := by obtain ⟨_, e, _⟩ := g4; cases α4; cases e; rfl
    obtain ⟨γ, eγ⟩ := g4.2.2
    have eγ : α4.as = as2 ++ γ := eγ
    cases b with
    | false =>
      rw [if_neg Bool.false_ne_true] at cl
      refine L2.iteF ?_
      rw [e4] at h4
      exact ⟨hlt, ⟨F4, α4.as, μ3, es, vs, (l2.trans l3).trans g4.1, ⟨β ++ γ, by rw [eγ, eβ, List.append_assoc]⟩, h4, rl.mono (l3.trans g4.1), by omega, cl⟩⟩
    | true =>
      rw [if_pos rfl] at cl
      refine L2.iteT ?_
      refine ⟨F4, α4, ρ', μ3, h4, sl4.mono g4, wpI.imp it2 cl (fun ds2 μ5 cl J' F5 α5 H5 g5 h5 J2 => ?_) fun _ _ x => x.elim⟩
      obtain ⟨hz2, cl⟩ := cl
      have e5 : α5 = ⟨α5.as, hset α1.hid p vs⟩ := by
        obtain ⟨_, q, _⟩ := g4.trans g5
        cases α5; cases q; rfl
      obtain ⟨δ, eδ⟩ := g5.2.2
      let I2 := fun (j : Nat) (H' : Hp) => In2 X p α1.hid F5 α5.as H' (1000 * i + j) fun es' m => C2 ρ' (ds2.drop j) m fun es2 m2 => ∃ es3, es3 = es2 ∧ C1 (ds.drop (i + 1)) m2 fun es4 m4 => Kc (es' ++ es2 ++ es4) m4
      refine ⟨fun j k H' => k = ds2.length - j ∧ j ≤ ds2.length ∧ I2 j H', ⟨_, rfl, Nat.zero_le _, ⟨F5, α5.as, μ5, es, vs, .refl, ⟨[], by simp⟩, by rw [e5] at h5; exact h5, rl.mono ((l3.trans g4.1).trans g5.1), by omega, ?_⟩⟩, ?_⟩
      · refine compL.imp (ts := fun ρ2 μ' Q' => wpT c2 ρ2 μ' Q' fun _ _ => False) (el := fun ρ2 μ' Q' => wpE el ρ2 μ' Q' fun _ _ => False) (fun _ _ _ _ h k => wpT.imp c2 h k fun _ _ z => z) (fun _ _ _ _ h k => wpE.imp el h k fun _ _ z => z) ds2 _ _ _ cl fun es2 m2 q => ⟨es2, rfl, ?_⟩
        simpa [List.append_assoc] using q
      · rintro j k H6 ⟨rfl, hj, ⟨F6, as6, μ6, es6, vs6, l6, ⟨β6, eβ6⟩, h6, rl6, hl6, cl6⟩⟩
        by_cases hjt : j < ds2.length
        · refine .inr ⟨J2.go j H6 (l6.trans h6.le) hjt, fun H'' => j + 1 ≤ ds2.length ∧ I2 (j + 1) H'', fun H'' n => ⟨_, by omega, rfl, n⟩, fun x7 H7 y7 => ?_⟩
          obtain ⟨d7, ed7, F7, h7, l7, rx7⟩ := item_in J2 l6 h6 hjt y7
          rw [ed7] at cl6
          obtain ⟨ρ7, eρ7, cl6⟩ := opt.of cl6
          have gg : Go F3 F7 ⟨as2, hset α1.hid p vs⟩ ⟨as6, hset α1.hid p vs⟩ := (g4.trans g5).trans (by rw [e5]; exact ⟨l6.trans l7, rfl, β6, eβ6⟩)
          have sl7 : Slots X.K [] F7 ⟨as6, hset α1.hid p vs6⟩ (wipeR ρ' t2.slots) (L2.wipe σ2 t2.slots) := Slots.wipe (slots_hid (sl4.mono gg)) _
          refine tg_in rx7 h7.le eρ7 sl7 fun σ8 sl8 hw8 => ⟨by rw [hw8]; exact wipe_wipe2 σ2 t2.slots, ?_⟩
          refine ⟨F7, _, ρ7, μ6, h7, sl8, wpT.imp c2 cl6 (fun b μ8 cl8 F8 α8 H8 g8 h8 => ?_) fun _ _ x => x.elim⟩
          have e8 : α8 = ⟨α8.as, hset α1.hid p vs6⟩ := by obtain ⟨_, e, _⟩ := g8; cases α8; cases e; rfl
          obtain ⟨γ8, eγ8⟩ := g8.2.2
          have eγ8 : α8.as = as6 ++ γ8 := eγ8
          cases b with
          | false =>
            rw [if_neg Bool.false_ne_true] at cl8
            refine L2.iteF ?_
            rw [e8] at h8
            exact ⟨hjt, ⟨F8, α8.as, μ8, es6, vs6, (l6.trans l7).trans g8.1, ⟨β6 ++ γ8, by rw [eγ8, eβ6, List.append_assoc]⟩, h8, rl6.mono (l7.trans g8.1), by omega, cl8⟩⟩
          | true =>
            rw [if_pos rfl] at cl8
            refine L2.iteT ?_
            refine ⟨F8, α8, ρ7, μ8, h8, sl8.mono g8, wpE.imp el cl8 (fun rv μ9 cl9 v F9 α9 H9 g9 h9 rv9 => ?_) fun _ _ x => x.elim⟩
            obtain ⟨⟨e, μ10⟩, ef, cl9⟩ := opt.of cl9
            obtain ⟨F10, g10, h10, r10⟩ := h9.freeze rv9 ef
            have e9 : α9 = ⟨α9.as, hset α1.hid p vs6⟩ := by
              obtain ⟨_, q, _⟩ := g8.trans g9
              cases α9; cases q; rfl
            obtain ⟨γ9, eγ9⟩ := g9.2.2
            rw [e9] at h10
            obtain ⟨eD, _, _⟩ := h10.hd p vs6 hset_same
            have rl10 := rl6.mono ((l7.trans g8.1).trans (g9.1.trans g10.1))
            refine ⟨vs6, eD, by rw [rl6.length, line_eq]; omega, hjt, ⟨F10, α9.as, μ10, es6 ++ [e], vs6 ++ [v], ((l6.trans l7).trans g8.1).trans (g9.1.trans g10.1), ⟨β6 ++ γ8 ++ γ9, by rw [eγ9, eγ8, eβ6, List.append_assoc, List.append_assoc, List.append_assoc]⟩, h10.rehide, rl10.append (.cons r10 .nil), by simp; omega, ?_⟩⟩
            refine compL.imp (ts := fun ρ2 μ' Q' => wpT c2 ρ2 μ' Q' fun _ _ => False) (el := fun ρ2 μ' Q' => wpE el ρ2 μ' Q' fun _ _ => False) (fun _ _ _ _ h k => wpT.imp c2 h k fun _ _ z => z) (fun _ _ _ _ h k => wpE.imp el h k fun _ _ z => z) _ _ _ _ cl9 fun es2 m2 q => ?_
            obtain ⟨_, _, q⟩ := q
            refine ⟨es2, rfl, ?_⟩
            simpa [List.append_assoc] using q
        · obtain rfl : j = ds2.length := by omega
          rw [List.drop_length] at cl6
          obtain ⟨_, _, cl6⟩ := (show ∃ es3, es3 = [] ∧ C1 (ds.drop (i + 1)) μ6 fun es4 m4 => Kc (es6 ++ [] ++ es4) m4 from cl6)
          simp only [List.append_nil] at cl6
          exact .inl ⟨J2.stop _ H6 (l6.trans h6.le) (Nat.le_refl _), hlt, ⟨F6, as6, μ6, es6, vs6, ((l2.trans l3).trans g4.1).trans (g5.1.trans l6), ⟨β ++ γ ++ δ ++ β6, by rw [eβ6, eδ, eγ, eβ]; simp [List.append_assoc]⟩, h6, rl6, by omega, cl6⟩⟩
  · obtain rfl : i = ds.length := by omega
    refine .inl ⟨J1.stop _ H' (l2.trans h2.le) (Nat.le_refl _), ?_⟩
    rw [List.drop_length] at cl
    have cl : Kc (es ++ []) μ2 := cl
    rw [List.append_nil] at cl
    exact fin0 g2 h2 nh rl cl
theorem d_lc2 {elt tg iter tg1 iter1 : Expr} {ifs ifs1 : List Expr} {scope : Scope} {own : List (Str × Nat)} {pos : Pos} {el : E} {t1 t2 : Tg} {it1 it2 : It} {c1 c2 : T} (hc : X.calm = true) (hN : X.N.Nodup) (hi : PI X tg iter (tI X.K [] W it1)) (ok : BlkOk X.N X.env.scope scope own) (how : own.map (·.2) = t1.slots ++ t2.slots)
    (hg : ∀ (s : Shared) (H : Hp) (C : Addr) (cl : List (Str × Addr)) (fp : List Addr), PG (X.blk s H scope (compEnvC scope cl C X.env) fp) tg (gOf X.K t1)) (ht : ∀ (s : Shared) (H : Hp) (C : Addr) (cl : List (Str × Addr)) (fp : List Addr), PTs (X.blk s H scope (compEnvC scope cl C X.env) fp) ifs (tT X.K [] noX c1))
    (hi1 : ∀ (s : Shared) (H : Hp) (C : Addr) (cl : List (Str × Addr)) (fp : List Addr), PI (X.blk s H scope (compEnvC scope cl C X.env) fp) tg1 iter1 (tI X.K [] noX it2))
    (hg1 : ∀ (s : Shared) (H : Hp) (C : Addr) (cl : List (Str × Addr)) (fp : List Addr), PG (X.blk s H scope (compEnvC scope cl C X.env) fp) tg1 (gOf X.K t2)) (ht1 : ∀ (s : Shared) (H : Hp) (C : Addr) (cl : List (Str × Addr)) (fp : List Addr), PTs (X.blk s H scope (compEnvC scope cl C X.env) fp) ifs1 (tT X.K [] noX c2))
    (he : ∀ (s : Shared) (H : Hp) (C : Addr) (cl : List (Str × Addr)) (fp : List Addr), PE (X.blk s H scope (compEnvC scope cl C X.env) fp) elt (tE X.K [] noX el)) (hs : ∀ x, foldedSetIterable iter X.env x = pure x) (hs1 : ∀ env x, foldedSetIterable iter1 env x = pure x) :
    PE X (.ListComp elt [⟨tg, iter, ifs, 0⟩, ⟨tg1, iter1, ifs1, 0⟩] scope pos) (tE X.K [] W (.lc2 el t1 it1 c1 t2 it2 c2)) := by
  refine PE.imp (pe_lc2 (vs1 := t2.slots) hc hN hi ok (fun i hi => by rw [how]; exact List.mem_append_right _ hi) hg ht hi1 hg1 ht1 he hs hs1) ?_
  rintro σ H Q ⟨F, α, ρ, μ, hd, sl, w⟩
  exact lc2_main how hd sl w lc_end
end
end DL

namespace DL
open PySem PySem.Spec PyProof.Rows L2
/-- list.extend of a list or tuple, however it stands -/
theorem ext_any (T : String) (hT : T = "list" ∨ T = "tuple") (l : Addr) (items : Array Value) (n : Nat) (b : Addr) (items2 : Array Value) (n2 : Nat) (dd : Option Addr) (sl : Array (Option Value)) (hs0 : ¬(!items.isEmpty && Builtin.List.listTooLong (items.size + items2.size)) = true) (hs1 : items.size ≤ sizeLine) (hs2 : items.size + items2.size ≤ sizeLine + 1) :
    Meets (Builtin.«list.extend» ⟨[.ref l, .ref b], []⟩) (fun _ R s => s.heap.get? l = some { cls := .type "list", dict := none, data := .seq items n, slots := #[] } ∧ s.heap.get? b = some { cls := .type T, dict := dd, data := .seq items2 n2, slots := sl } ∧ R (.ok (.ret Value.none)) { s with heap := s.heap.update l (Obj.mapSeq fun x => x ++ items2), toks := s.toks }) :=
  .of_wp fun prog w A R s h => by
    obtain ⟨hp, g, d, tk, os⟩ := s
    obtain ⟨hl, hb, h⟩ := h
    have f1 := AutoSeq1.idx_int
    have f2 := AutoSeq1.sub_tuple_tuple
    have f3 := AutoSeq1.sub_list_list
    have f4 := AutoSeq1.sub_tuple_list
    have f5 := AutoSeq1.sub_list_tuple
    have hz' : (items ++ items2).size ≤ sizeLine + 1 := by rw [Array.size_append]; exact hs2
    rcases hT with rfl | rfl
    · wp_walk using (wpAny_updateSeq hl rfl (hz := hs1) (_hz' := hz')), AutoSeq1.wpAny_loadPart' hl, AutoSeq1.wpAny_loadPart' hb
      exact ⟨_, rfl, h⟩
    · wp_walk using (wpAny_updateSeq hl rfl (hz := hs1) (_hz' := hz')), AutoSeq1.wpAny_loadPart' hl, AutoSeq1.wpAny_loadPart' hb
      exact ⟨_, rfl, h⟩
section
variable {X : Cx} {pn : List (Addr × Obj)} {W : WX}
theorem mt_ext : MtM X "list.extend" (fun x vs H Q => ∃ l b xs zs, x = .ref l ∧ vs = [.ref b] ∧ H l = some (.lst xs) ∧ (SqL X.K H b zs ∨ SqT X.K H b zs) ∧ xs.length + zs.length ≤ sizeLine ∧ Q .non (upd H l (.lst (xs ++ zs)))) := by
  intro pins s σ H x vs v us Q I rx rv h
  obtain ⟨l, b, xs, zs, rfl, rfl, hH, hB, hz, q⟩ := h
  cases rx
  obtain ⟨u, rfl, ru⟩ := rv.one
  cases ru
  obtain ⟨z, its, n, r, hl, e⟩ := I.lstM hH
  have key : ∃ (T : String) (its2 : List Value) (n2 : Nat) (dd : Option Addr) (sl : Array (Option Value)), (T = "list" ∨ T = "tuple") ∧ Vals zs its2 ∧ s.heap.get? b = some { cls := .type T, dict := dd, data := .seq its2.toArray n2, slots := sl } := by
    rcases hB with hB | hB
    · obtain ⟨its2, r2, ⟨⟨c, dd, dt, sl⟩, n2, e2, c1, c2, c3⟩, _⟩ := I.list hB
      dsimp only at c1 c2 c3
      subst c1 c2 c3
      exact ⟨"list", its2, n2, _, sl, .inl rfl, r2, e2⟩
    · obtain ⟨its2, r2, ⟨⟨c, dd, dt, sl⟩, e2, c1, n2, c3⟩, _⟩ := I.tuple hB
      dsimp only at c1 c3
      subst c1 c3
      exact ⟨"tuple", its2, n2, dd, sl, .inr rfl, r2, e2⟩
  obtain ⟨T, its2, n2, dd, sl, hT, r2, e2⟩ := key
  have hl2 : zs.length = its2.length := r2.length
  have hsz : its.toArray.size + its2.toArray.size ≤ sizeLine := by rw [List.size_toArray, List.size_toArray]; omega
  have hlong : ¬ (!its.toArray.isEmpty && Builtin.List.listTooLong (its.toArray.size + its2.toArray.size)) = true := by
    rw [notLongL hsz, Bool.and_false]
    exact Bool.false_ne_true
  refine call_meets PySem.F.slot_list_extend ⟨_, e, rfl⟩ PySem.F.entry_list_extend (PySem.F.args_list_extend_2 _ _)
    (ext_any T hT l its.toArray n b its2.toArray n2 dd sl hlong (by rw [List.size_toArray]; omega) (by omega)) ⟨e, e2, ?_⟩
  refine ⟨.non, _, I.lset (its' := its ++ its2) hH e (by simp) (r.append r2) ?_, rfl, q⟩
  rw [List.length_append]
  omega
theorem d_ext {o e : Expr} {apos cpos : Pos} {a b : E} (ho : PE X o (tE X.K pn W a)) (he : PE X e (tE X.K pn W b)) (hbase : attributeBase o "extend" X.env (eval o X.env) = eval o X.env) (hline : (apos.endLine == cpos.line) = true) (hst : ∀ x p, e ≠ .Starred x p) :
    PE X (.Call (.Attribute o "extend" apos) [e] [] cpos) (tE X.K pn W (.ext a b)) := by
  have hs := notStar hst [] X.env
  refine PE.imp (pe_bm PySem.F.plainAttrs_list PySem.F.slot_list_extend PySem.F.type_list_extend mt_ext ho (pa_cons he pa_nil hs) hbase (by rw [hs]; rfl) hline hs rfl) ?_
  rintro σ H Q ⟨F, α, ρ, μ, h, sl, w⟩
  refine one1 h sl w fun r1 μ1 v1 F1 α1 H1 g1 h1 rv1 p => ?_
  cases r1 with
  | dat _ => exact p.elim
  | exc _ _ => exact p.elim
  | since _ _ _ => exact p.elim
  | loc l =>
    obtain ⟨⟨xs0, e0⟩, p⟩ := p
    refine ⟨tyL h1 rv1 e0, ?_⟩
    refine ⟨F1, α1, ρ, μ1, h1, sl.mono g1, wpE.imp b p (fun r2 μ2 p v2 F2 α2 H2 g2 h2 rv2 => ?_) fun _ _ x => x.go g1⟩
    obtain ⟨⟨d, μ3⟩, e1, p⟩ := opt.of p
    obtain ⟨F3, g3, h3, r3⟩ := h2.freeze rv2 e1
    obtain ⟨ys, ey, p⟩ := opt.of p
    obtain ⟨o, eo, p⟩ := opt.of p
    obtain ⟨aa, ea, ev⟩ := rv1.mono (g2.trans g3)
    cases o with
    | lst xs =>
      obtain ⟨hz, p⟩ := p
      obtain ⟨nF, vs, q, rl⟩ := h3.ob l aa _ ea eo
      obtain ⟨b2, zs, rfl, hq, rz⟩ : ∃ b2 zs, v2 = .ref b2 ∧ (SqL X.K H2 b2 zs ∨ SqT X.K H2 b2 zs) ∧ RL X.K F3 zs ys := by
        cases d <;> first | (cases ey; done) | skip
        · cases ey
          cases r3 with
          | lst s1 l1 => exact ⟨_, _, rfl, .inl (.inl (h3.le.rd _ _ rfl s1)), l1⟩
        · cases ey
          cases r3 with
          | tup s1 l1 => exact ⟨_, _, rfl, .inr (h3.le.sqT s1), l1⟩
      refine ⟨aa, b2, vs, zs, ev, rfl, q, hq, by rw [rl.length, rz.length, line_eq]; exact hz, ?_⟩
      refine p _ F3 α2 _ (g1.trans (g2.trans g3)) (h3.write ea nF q (fun x z => nomatch z) ⟨nF, _, upd_same, rl.append rz⟩) R.non
    | _ => exact p.elim
theorem d_insat {o e f : Expr} {apos cpos : Pos} {a i b : E} (ho : PE X o (tE X.K pn W a)) (he : PE X e (tE X.K pn W i)) (hf : PE X f (tE X.K pn W b)) (hbase : attributeBase o "insert" X.env (eval o X.env) = eval o X.env) (hline : (apos.endLine == cpos.line) = true) (hst : ∀ x p, e ≠ .Starred x p) (hst2 : ∀ x p, f ≠ .Starred x p) :
    PE X (.Call (.Attribute o "insert" apos) [e, f] [] cpos) (tE X.K pn W (.insat a i b)) := by
  have hs := notStar hst [f] X.env
  have hs2 := notStar hst2 [] X.env
  refine PE.imp (pe_bm PySem.F.plainAttrs_list PySem.F.slot_list_insert PySem.F.type_list_insert mt_insert ho (pa_cons he (pa_cons hf pa_nil hs2) hs) hbase (by rw [hs, hs2]; rfl) hline hs (by rw [hs2]; rfl)) ?_
  rintro σ H Q ⟨F, α, ρ, μ, h, sl, w⟩
  refine one1 h sl w fun r1 μ1 v1 F1 α1 H1 g1 h1 rv1 p => ?_
  cases r1 with
  | dat _ => exact p.elim
  | exc _ _ => exact p.elim
  | since _ _ _ => exact p.elim
  | loc l =>
    obtain ⟨⟨xs0, e0⟩, p⟩ := p
    refine ⟨tyL h1 rv1 e0, ?_⟩
    refine ⟨F1, α1, ρ, μ1, h1, sl.mono g1, wpE.imp i p (fun ri μi p vi Fi αi Hi gi hi rvi => ?_) fun _ _ x => x.go g1⟩
    split at p
    · rename_i j
      cases rvi
      refine ⟨Fi, αi, ρ, μi, hi, sl.mono (g1.trans gi), wpE.imp b p (fun r2 μ2 p v2 F2 α2 H2 g2 h2 rv2 => ?_) fun _ _ x => x.go (g1.trans gi)⟩
      obtain ⟨⟨d, μ3⟩, e1, p⟩ := opt.of p
      obtain ⟨F3, g3, h3, r3⟩ := h2.freeze rv2 e1
      obtain ⟨o, eo, p⟩ := opt.of p
      obtain ⟨aa, ea, ev⟩ := rv1.mono (gi.trans (g2.trans g3))
      cases o with
      | lst xs =>
        obtain ⟨hz, hj, hj0, p⟩ := p
        obtain ⟨nF, vs, q, rl⟩ := h3.ob l aa _ ea eo
        have hj2 : j < 2 ^ 63 := by unfold small at hj; have := of_decide_eq_true hj; omega
        refine ⟨aa, vs, j, v2, ev, rfl, q, by rw [rl.length, line_eq]; exact hz, hj0, hj2, ?_⟩
        refine p _ F3 α2 _ (g1.trans (gi.trans (g2.trans g3))) (h3.write ea nF q (fun x z => nomatch z) ⟨nF, _, upd_same, ((rl.take _).append (.cons r3 .nil)).append (rl.drop _)⟩) R.non
      | _ => exact p.elim
    · exact p.elim
theorem d_lenset (hc : X.calm = true) {p p2 q pos : Pos} {e : Expr} {a : E} (hg : Gl X "len") (hm : X.mg "len" = none) (hg2 : Gl X "set") (hm2 : X.mg "set" = none) (he : PE X e (tE X.K pn W a)) (hst : ∀ x p, e ≠ .Starred x p) :
    PE X (.Call (.Name "len" p) [.Call (.Name "set" p2) [e] [] q] [] pos) (tE X.K pn W (.lenset a)) := by
  have hs := notStar hst [] X.env
  have hi := pe_callTy (p := p2) (pos := q) (cr_setT hc) hg2 hm2 (show bootBuiltins "set" = some (.type "set") by first | rfl | kernel_rfl) (pa_cons he pa_nil hs) (by decide) (by decide) hs rfl
  have hs2 := notStar (e := .Call (.Name "set" p2) [e] [] q) (fun _ _ z => nomatch z) [] X.env
  have cr : CallR X (.builtin "len") (fun vs H Q => ∃ a l, vs = [.ref a] ∧ H a = some (SetTO X.w a l) ∧ Q (.int (l.length : Nat)) H) := by
    intro pins s σ H vs us Q I r h
    obtain ⟨a, l, rfl, hH, q⟩ := h
    obtain rfl := Vals.ref1 r
    obtain ⟨⟨ob, es, ep, tb, ho, hx, hd, q1, q2, q3, q4, q5, _⟩, _⟩ := I.hok a _ hH
    have hz : es.size = l.length := by have := q2.length_eq; rw [List.length_map, Array.length_toList] at this; exact this
    exact call_len_set ho hx hd q5 (by have : scanBound < 2 ^ 63 := (by decide); omega) ⟨.int _, H, I.tok _, ⟨_, by rw [hz]⟩, q⟩
  refine PE.imp (pe_callB cr hg hm PySem.boot_len (pa_cons hi pa_nil hs2) (by decide) (by decide) hs2 rfl) ?_
  rintro σ H Q ⟨F, α, ρ, μ, h, sl, w⟩
  refine one1 h sl w fun r1 μ1 v1 F1 α1 H1 g1 h1 rv1 z => ?_
  obtain ⟨d, e1, z⟩ := opt.of z
  obtain ⟨ss, e2, z⟩ := opt.of z
  obtain ⟨aa, rfl, hq⟩ := txts_in h1 rv1 e1 e2
  exact ⟨aa, ss, rfl, hq, z.1, fun t nt => ⟨t, _, rfl, upd_same, z.2 _ F1 α1 _ g1 (h1.add nt) (R.int _)⟩⟩
theorem d_dic1 {k v : Expr} {pos : Pos} {a b : E} (hk : PE X k (tE X.K pn W a)) (hv : PE X v (tE X.K pn W b)) : PE X (.Dict [some k] [v] pos) (tE X.K pn W (.dic1 a b)) := by
  refine PE.imp (pe_disp (pps_cons hk hv pps_nil) rfl rfl (by simp) (by simp)) ?_
  rintro σ H Q ⟨F, α, ρ, μ, h, sl, w⟩ p np
  have nh : α.hid p = none := by
    cases q : α.hid p with
    | none => rfl
    | some ws => have := (h.hd _ ws q).1; rw [np] at this; cases this
  obtain ⟨h0, g0⟩ := (h.add (u := .dK []) np).own (p := p) (o := .dic []) (by rw [upd_same]; simp) (fun z => h.al _ z np) nh ⟨h.fr _ np, [], upd_same, .nil⟩
  have get0 : (α.as ++ [p])[μ.length]? = some p := by rw [← h.len]; simp
  refine ⟨F, _, ρ, _, h0, sl.mono g0, wpE.imp a w (fun rk μ1 z vk F1 α1 H1 g1 h1 rvk => ?_) fun _ _ x => x.go g0⟩
  obtain ⟨kd, e1, z⟩ := opt.of z
  obtain ⟨key, e2, z⟩ := opt.of z
  refine ⟨F1, α1, ρ, μ1, h1, sl.mono (g0.trans g1), wpE.imp b z (fun rv μ2 z vv F2 α2 H2 g2 h2 rvv => ?_) fun _ _ x => x.go (g0.trans g1)⟩
  obtain ⟨⟨d, μ3⟩, e3, z⟩ := opt.of z
  obtain ⟨F3, g3, h3, r3⟩ := h2.freeze rvv e3
  obtain ⟨eo, z⟩ := z
  have get3 : α2.as[μ.length]? = some p := go_get (g1.trans g2) get0
  obtain ⟨nF, vs, q, rk⟩ := h3.ob μ.length p _ get3 eo
  cases rk
  have ek : vk = kV key := by
    have r := h1.see rvk e1
    cases kd <;> first | (cases e2; done) | skip
    · cases e2; cases r; rfl
    · cases e2; cases r; rfl
  subst ek
  refine ⟨q, [(key, vv)], rfl, by simp, ?_⟩
  refine z _ F3 α2 _ (g0.trans (g1.trans (g2.trans g3))) (h3.write get3 nF q (fun x z => nomatch z) ⟨nF, _, upd_same, .cons r3 .nil⟩) ⟨p, get3, rfl⟩
end
end DL

namespace DL
open PySem PySem.Spec PyProof.Rows L2

/-- where one stands: the slots' names, the scope; calm: not in an except suite; blk: in a comprehension; top: among a def's statements -/
structure Cc where
  N : List Str
  sc : Scope
  calm : Bool
  blk : Option Scope
  top : Bool
/-- the surroundings -/
structure En where
  P : Program
  w : World
  K : PySem.W.Frag
  mg : Str → Option Value
  base : Heap
  k : Nat
def bltNames : List Str := ["len", "all", "any", "int", "list", "tuple", "str", "sorted", "repr", "sum", "set", "isinstance", "range", "enumerate", "zip", "bool", "dict", "min", "max", "super"]
/-- a cell that may be written -/
def Cc.own (c : Cc) (x : Str) : Bool := match c.blk with
  | none => true
  | some s => s.names.lookup x == some .cell
structure At (en : En) (c : Cc) (pn : List (Addr × Obj)) (X : Cx) (W : WX) : Prop where
  prog : X.prog = en.P
  w : X.w = en.w
  K : X.K = en.K
  mg : X.mg = en.mg
  base : X.base = en.base
  N : X.N = c.N
  sc : X.env.scope = c.sc
  nd : X.N.Nodup
  un : X.A.units + 64 < cLine
  room : c.calm = true → Room en.k X.A
  calm : c.calm = true → X.calm = true
  tk : Takes X W
  fn : ∀ x, c.own x = true → X.fn x = true
  pass : c.top = true → PassesOwn (model X.prog X.w) X.A X.env X.xe
  stk : c.top = true → X.stack = X.env :: X.outer ∧ X.env.frame = some X.env.locals
  kind : X.env.scope.kind = .function
  pns : ∀ q ∈ pn, q ∈ X.pn
  pn0 : c.calm = true → pn = []
  blt : ∀ x ∈ bltNames, en.mg x = none
  gd : X.A.guards = some []

def En.Fn (n : En) (f : Str) (S : Spc) : Prop := n.mg f = some (.ref (He.ga n.K f)) ∧ PySem.W.keepIn n.K (.ref (He.ga n.K f)) = true ∧ CallOk n.P n.w n.K n.mg n.base n.k (He.ga n.K f) (lift n.K S)
def En.Me (n : En) (c m : Str) (S : Spc) : Prop := Cls n.K (He.ga n.K c) ∧ ∃ fa j, Meth n.K (He.ga n.K c) m fa ∧ FnR n.P n.w n.K n.mg n.base (CX n.P n.w) j fa (lift n.K S) ∧ j + 1 ≤ n.k
def En.Fl (n : En) (c f : Str) : Prop := Cls n.K (He.ga n.K c) ∧ NoAttr n.K (He.ga n.K c) f
def En.Gv (n : En) (x : Str) (d : D) : Prop := ∃ u v, n.mg x = some u ∧ RelV v u ∧ ∀ F, R n.K F v d
def En.Xf (n : En) (f : Str) (cs : List Str) : Prop := ∀ c ∈ cs, XfC n.K (He.ga n.K c) ∧ PySem.W.findIn n.K (.ref (He.ga n.K c)) f = some none
def En.Cv (n : En) (x : Str) (cu : Value) : Prop := (n.mg x = some cu ∨ (n.mg x = none ∧ bootBuiltins x = some cu ∧ x ≠ "__name__")) ∧ ∃ cv : V, RelV cv cu ∧ ∀ u, RelV cv u → u = cu
def En.Xi (n : En) (x : Str) (tab : List (Str × Bool)) : Prop := ∃ cu, n.Cv x cu ∧ ∀ q ∈ tab, ExcC n.K (He.ga n.K q.1) ∧ PySem.W.kitOne n.K (.ref (He.ga n.K q.1)) cu = some q.2
def En.Xt (n : En) (x : Str) (tab : List (Str × Bool)) : Prop := ∃ cu, n.Cv x cu ∧ ∀ q ∈ tab, PySem.W.exmOne n.K (.ref (He.ga n.K q.1)) cu = some q.2
def En.Rs (n : En) (c : Str) (fs : List Str) : Prop := n.mg c = some (.ref (He.ga n.K c)) ∧ ∃ f fI, fs = [f] ∧ DX.XTxt n.P n.K (He.ga n.K c) fI ∧ DX.X1 n.P n.K (He.ga n.K c) fI f
def En.Rk (n : En) (c : Str) : Prop := n.mg c = some (.ref (He.ga n.K c)) ∧ PySem.W.keepIn n.K (.ref (He.ga n.K c)) = true ∧ PySem.W.excIn n.K (He.ga n.K c) He.veBase "ValueError.__new__" = true ∧
  PySem.W.subIn n.K (.ref (He.ga n.K c)) (.type "BaseException") = some true ∧ PySem.W.typeIn n.K (.ref (He.ga n.K c)) = some (.type "type")
def En.Ow (n : En) (o : Oo) (c : Str) (S : Spc) : Prop := ∃ fa j, Meth n.K (He.ga n.K c) o.nm fa ∧ FnR n.P n.w n.K n.mg n.base (CX n.P n.w) j fa (lift n.K S) ∧ j + 1 ≤ n.k ∧ owB n.K o (He.ga n.K c) fa = true
def En.Co (n : En) (c : Str) (S : Spc) : Prop := ∃ fa j, StX.CallO n.K (He.ga n.K c) fa ∧ FnR n.P n.w n.K n.mg n.base (CX n.P n.w) j fa (lift n.K S) ∧ j ≤ n.k
def En.Is (n : En) (c : Str) : Prop := Cls n.K (He.ga n.K c) ∧ IsC n.K (He.ga n.K c) ∧ n.mg c = some (.ref (He.ga n.K c))
mutual
def GdE (n : En) : E → Prop
  | .var _ => True
  | .cst _ => True
  | .glb x d => n.Gv x d
  | .bin _ a b => GdE n a ∧ GdE n b
  | .cmp _ a b => GdE n a ∧ GdE n b
  | .chn _ _ a b c => GdE n a ∧ GdE n b ∧ GdE n c
  | .and a b => GdE n a ∧ GdE n b
  | .or a b => GdE n a ∧ GdE n b
  | .one a => GdE n a
  | .not a => GdE n a
  | .ife c a b => GdT n c ∧ GdE n a ∧ GdE n b
  | .ix a b => GdE n a ∧ GdE n b
  | .sl a l h => GdE n a ∧ GdO n l ∧ GdO n h
  | .rev a => GdE n a
  | .fld a c f => n.Fl c f ∧ GdE n a
  | .xfld a f cs => n.Xf f cs ∧ GdE n a
  | .xisi a x tab => n.Xi x tab ∧ GdE n a
  | .lenO a c S => n.Me c "__len__" S ∧ GdE n a
  | .bi _ as => GdA n as
  | .isi a _ => GdE n a
  | .tup as => GdA n as
  | .lst as => GdA n as
  | .lc e _ i t => GdE n e ∧ GdI n i ∧ GdT n t
  | .call f S as => n.Fn f S ∧ GdA n as
  | .meth a c m S as => n.Me c m S ∧ GdE n a ∧ GdA n as
  | .app a e => GdE n a ∧ GdE n e
  | .popat a e => GdE n a ∧ GdE n e
  | .lstO as => GdA n as
  | .listO as => GdA n as
  | .lcO e _ i t => GdE n e ∧ GdI n i ∧ GdT n t
  | .bad => True
  | .dic0 => True
  | .dget a k d => GdE n a ∧ GdE n k ∧ GdE n d
  | .dictO a => GdE n a
  | .dcO e v _ i t => GdE n e ∧ GdE n v ∧ GdI n i ∧ GdT n t
  | .ow o a b c S => n.Ow o c S ∧ GdE n a ∧ GdE n b
  | .callO a c S as => n.Co c S ∧ GdE n a ∧ GdA n as
  | .isiO a c => n.Is c ∧ GdE n a
  | .sortK a => GdE n a
  | .addO a b => GdE n a ∧ GdE n b
  | .sorset a => GdE n a
  | .cnt a b => GdE n a ∧ GdE n b
  | .lc2 e _ i c _ j d => GdE n e ∧ GdI n i ∧ GdT n c ∧ GdI n j ∧ GdT n d
  | .lcV e _ a t => GdE n e ∧ GdE n a ∧ GdT n t
  | .dmrg a b => GdE n a ∧ GdE n b
  | .lenset a => GdE n a
  | .ext a e => GdE n a ∧ GdE n e
  | .insat a i e => GdE n a ∧ GdE n i ∧ GdE n e
  | .dic1 k v => GdE n k ∧ GdE n v
  | .tidx a b => GdE n a ∧ GdE n b
  | .callK _ _ _ _ as kas => GdA n as ∧ GdA n kas
  | .lam _ _ _ b => GdE n b
  | .act _ _ => True
def GdO (n : En) : Po → Prop
  | .no => True
  | .at e => GdE n e
def GdA (n : En) : As → Prop
  | .nil => True
  | .cons a r => GdE n a ∧ GdA n r
  | .ref a r => GdE n a ∧ GdA n r
  | .star a r => GdE n a ∧ GdA n r
def GdT (n : En) : T → Prop
  | .tt => True
  | .v e => GdE n e
  | .and a b => GdT n a ∧ GdT n b
  | .or a b => GdT n a ∧ GdT n b
  | .one a => GdT n a
  | .not a => GdT n a
def GdI (n : En) : It → Prop
  | .seq a => GdE n a
  | .rng a => GdE n a
  | .rng2 a b => GdE n a ∧ GdE n b
  | .enm a => GdE n a
  | .zip a b => GdE n a ∧ GdE n b
end
def GdS (n : En) : S → Prop
  | .skip => True
  | .pas => True
  | .brk => True
  | .cnt => True
  | .retN => True
  | .seq a b => GdS n a ∧ GdS n b
  | .exp e => GdE n e
  | .set _ e => GdE n e
  | .unp _ e => GdE n e
  | .par _ _ a b => GdE n a ∧ GdE n b
  | .par3 _ _ _ a b c => GdE n a ∧ GdE n b ∧ GdE n c
  | .ret e => GdE n e
  | .ite c a b => GdT n c ∧ GdS n a ∧ GdS n b
  | .forr _ i b => GdI n i ∧ GdS n b
  | .whl c b => GdT n c ∧ GdS n b
  | .setix a k e => GdE n a ∧ GdE n k ∧ GdE n e
  | .setfl a c f e => n.Fl c f ∧ GdE n a ∧ GdE n e
  | .rse c fs as => n.Rs c fs ∧ GdA n as
  | .rseK c => n.Rk c
  | .tryx b x tab _ h => n.Xt x tab ∧ GdS n b ∧ GdS n h
  | .bad => True
  | .as2 a1 k1 a2 k2 e1 e2 => GdE n a1 ∧ GdE n k1 ∧ GdE n a2 ∧ GdE n k2 ∧ GdE n e1 ∧ GdE n e2
  | .try2 b x1 tab1 _ h1 x2 tab2 _ h2 => n.Xt x1 tab1 ∧ n.Xt x2 tab2 ∧ GdS n b ∧ GdS n h1 ∧ GdS n h2

def nst : Expr → Bool
  | .Starred _ _ => false
  | _ => true
def noSup : Expr → Bool
  | .Call (.Name _ _) [] [] _ => false
  | _ => true
def plainT : Expr → Bool
  | .UnaryOp .Not _ _ => false
  | .BoolOp _ _ _ => false
  | .IfExp _ _ _ _ => false
  | .Compare _ _ _ _ => false
  | _ => true
def notSlice : Expr → Bool
  | .Slice _ _ _ _ => false
  | _ => true
def notSet : Expr → Bool
  | .Set _ _ _ => false
  | _ => true
def noComp : Expr → Bool
  | .ListComp _ _ _ _ => false
  | .SetComp _ _ _ _ => false
  | .DictComp _ _ _ _ _ => false
  | _ => true
def notTup : Expr → Bool
  | .Tuple _ _ _ => false
  | _ => true
def gl (c : Cc) (x : Str) : Bool := decide (c.sc.names.lookup x = some .globalImplicit)
def loc (c : Cc) (x : Str) : Bool := decide (c.sc.names.lookup x = some .local)
def sto (c : Cc) (i : Nat) (x : Str) : Bool := decide (c.N[i]? = some x) && (loc c x || (c.own x && decide (c.sc.names.lookup x = some .cell)))
def vis (c : Cc) (x : Str) : Bool := decide (c.sc.names.lookup x = some .local) || (decide (c.sc.names.lookup x = some .cell) || decide (c.sc.names.lookup x = some .free))
def ndb (x : Str) : Bool := !(x == ("__debug__" : Str))
def chkC : D → Expr → Bool
  | .non, .Constant .none _ _ => true
  | .bl b, .Constant (.bool b') _ _ => b == b'
  | .int i, .Constant (.int j) _ _ => decide (i = j)
  | .int i, .UnaryOp .USub (.Constant (.int j) _ _) _ => decide (i = -j)
  | .str x, .Constant (.str y) _ _ => decide (x = y)
  | _, _ => false
def tgL (c : Cc) : List Nat → List Expr → Bool
  | [], [] => true
  | i :: is, .Name x _ :: es => sto c i x && tgL c is es
  | _, _ => false
def chkG (c : Cc) : Tg → Expr → Bool
  | .nm i, .Name x _ => sto c i x
  | .tp is, .Tuple es _ _ => tgL c is es
  | _, _ => false
def ownOf (N : List Str) (is : List Nat) : List (Str × Nat) := is.map fun i => (N.getD i "", i)
def relS (scope o : Scope) : Scope := { scope with names := scope.names.map fun (n, k) => if (k == .free && o.kind == .function && o.names.lookup n == some .cell) then (n, .cell) else (n, k) }
def Cc.comp (c : Cc) (scope : Scope) : Cc := ⟨c.N, relS scope c.sc, c.calm, some scope, false⟩
def blkB (c : Cc) (scope : Scope) (is : List Nat) : Bool := scope.kind == .function && ((scope.names.all fun y => decide (scope.names.lookup y.1 = some y.2)) && ((is.all fun i => decide (i < c.N.length)) &&
  ((scope.names.all fun y => y.2 != .free || (decide (c.sc.names.lookup y.1 = some .cell) || decide (c.sc.names.lookup y.1 = some .free))) && (scope.names.all fun y => (y.2 != .local && y.2 != .cell) || (((ownOf c.N is).map (·.1)).contains y.1 || !c.N.contains y.1)))))
def As.isNil : As → Bool
  | .nil => true
  | _ => false
def As.isStar : As → Bool
  | .star _ .nil => true
  | _ => false
def T.isTt : T → Bool
  | .tt => true
  | _ => false
def E.isCmp : E → Bool
  | .cmp _ _ _ => true
  | .ow _ _ _ _ _ => true
  | _ => false
def Oo.isIx : Oo → Bool
  | .ix => true
  | _ => false
def plainF : Expr → Bool
  | .Name _ _ => true
  | .BinOp _ _ _ _ => true
  | .Call _ _ _ _ => true
  | .Subscript _ _ _ => true
  | _ => false
def E.isChn : E → Bool
  | .chn _ _ _ _ _ => true
  | _ => false
def Bi.plain : Bi → Bool
  | .sorset => false
  | .lenset => false
  | _ => true
def Ty.isLT : Ty → Bool
  | .lstup => true
  | _ => false
mutual
def chkE : E → Cc → Expr → Bool
  | .var i, c, e => match e with
    | .Name x _ => decide (c.N[i]? = some x) && (vis c x && (ndb x && !(x == ("__classdict__" : Str))))
    | _ => false
  | .cst d, _, e => chkC d e
  | .glb y _, c, e => match e with
    | .Name x _ => decide (x = y) && (gl c x && ndb x)
    | _ => false
  | .bin o a b, c, e => match e with
    | .BinOp l op r _ => decide (op = o.op) && (chkE a c l && chkE b c r)
    | _ => false
  | .cmp o a b, c, e => match e with
    | .Compare l [op] [r] _ => decide (op = o.op) && (!behindInMarks op r && (chkE a c l && chkE b c r))
    | _ => false
  | .chn o o' a b d, c, e => match e with
    | .Compare l [op, op'] [m, r] _ => decide (op = o.op) && (decide (op' = o'.op) && (!behindInMarks op m && (!behindInMarks op' r && (chkE a c l && (chkE b c m && chkE d c r)))))
    | _ => false
  | .and a b, c, e => match e with
    | .BoolOp .And (l :: r :: rest) p => chkE a c l && chkE b c (.BoolOp .And (r :: rest) p)
    | _ => false
  | .or a b, c, e => match e with
    | .BoolOp .Or (l :: r :: rest) p => chkE a c l && chkE b c (.BoolOp .Or (r :: rest) p)
    | _ => false
  | .one a, c, e => match e with
    | .BoolOp _ [l] _ => chkE a c l
    | _ => false
  | .not a, c, e => match e with
    | .UnaryOp .Not l _ => chkE a c l
    | _ => false
  | .ife t a b, c, e => match e with
    | .IfExp x l r _ => chkT t c x && (chkE a c l && chkE b c r)
    | _ => false
  | .ix a b, c, e => match e with
    | .Subscript l r _ => notSlice r && (chkE a c l && chkE b c r)
    | _ => false
  | .sl a lo hi, c, e => match e with
    | .Subscript l (.Slice x y none _) _ => chkE a c l && (chkO lo c x && chkO hi c y)
    | _ => false
  | .rev a, c, e => match e with
    | .Subscript l (.Slice none none (some (.UnaryOp .USub (.Constant (.int i) _ _) _)) _) _ => decide (i = 1) && chkE a c l
    | _ => false
  | .fld a _ f, c, e => match e with
    | .Attribute o g _ => decide (g = f) && (noSup o && chkE a c o)
    | _ => false
  | .xfld a f _, c, e => match e with
    | .Attribute o g _ => decide (g = f) && (noSup o && chkE a c o)
    | _ => false
  | .xisi a x _, c, e => match e with
    | .Call (.Name i _) [o, .Name y _] [] _ => decide (i = "isinstance") && (gl c i && (decide (y = x) && (gl c y && (ndb y && (nst o && chkE a c o)))))
    | _ => false
  | .lenO a _ _, c, e => match e with
    | .Call (.Name i _) [o] [] _ => c.calm && (decide (i = "len") && (gl c i && (nst o && chkE a c o)))
    | _ => false
  | .bi f as, c, e => match e with
    | .Call (.Name i _) (x :: xs) [] _ => (c.calm || f.hot) && (decide (i = f.name) && (gl c i && (nst x && (xs.all nst && (f.plain && chkA as c (x :: xs))))))
    | _ => false
  | .isi a t, c, e => match e with
    | .Call (.Name i _) [o, .Name y _] [] _ => t.plain && (decide (i = "isinstance") && (gl c i && (decide (y = Str.ofString t.nm) && (gl c y && (nst o && chkE a c o)))))
    | .Call (.Name i _) [o, .Tuple [.Name y _, .Name z _] _ _] [] _ => t.isLT && (decide (i = "isinstance") && (gl c i && (decide (y = "list") && (gl c y && (decide (z = "tuple") && (gl c z && (nst o && chkE a c o)))))))
    | _ => false
  | .tup as, c, e => match e with
    | .Tuple es _ _ => chkA as c es
    | _ => false
  | .lst as, c, e => match e with
    | .List es _ => chkA as c es
    | _ => false
  | .lc el t it ifs, c, e => match e with
    | .ListComp x [⟨tg, iter, fs, 0⟩] scope _ => c.calm && (notSet iter && (blkB c scope t.slots && (chkG (c.comp scope) t tg && (chkI it c tg iter && (chkE el (c.comp scope) x && (match fs with
      | [] => ifs.isTt
      | [y] => chkT ifs (c.comp scope) y
      | _ => false))))))
    | _ => false
  | .call f _ as, c, e => match e with
    | .Call (.Name i _) [] [] _ => c.calm && (decide (i = f) && (gl c i && (ndb i && as.isNil)))
    | .Call (.Name i _) (x :: xs) [] _ => c.calm && (decide (i = f) && (gl c i && (ndb i && ((nst x || (xs.isEmpty && as.isStar)) && chkA as c (x :: xs)))))
    | _ => false
  | .meth a _ m _ as, c, e => match e with
    | .Call (.Attribute o i p) [] [] q => c.calm && (decide (i = m) && (noSup o && (p.endLine == q.line && (chkE a c o && as.isNil))))
    | .Call (.Attribute o i p) (x :: xs) [] q => c.calm && (decide (i = m) && (noSup o && (p.endLine == q.line && (chkE a c o && (nst x && (xs.all nst && (decide (xs.length < 28) && chkA as c (x :: xs))))))))
    | _ => false
  | .app a b, c, e => match e with
    | .Call (.Attribute o i p) [x] [] q => decide (i = "append") && (noSup o && (p.endLine == q.line && (nst x && (chkE a c o && chkE b c x))))
    | _ => false
  | .popat a b, c, e => match e with
    | .Call (.Attribute o i p) [x] [] q => decide (i = "pop") && (noSup o && (p.endLine == q.line && (nst x && (chkE a c o && chkE b c x))))
    | _ => false
  | .lstO as, c, e => match e with
    | .List es _ => chkA as c es
    | _ => false
  | .listO as, c, e => match e with
    | .Call (.Name i _) (x :: xs) [] _ => c.calm && (decide (i = "list") && (gl c i && (nst x && (xs.all nst && chkA as c (x :: xs)))))
    | _ => false
  | .lcO el t it ifs, c, e => match e with
    | .ListComp x [⟨tg, iter, fs, 0⟩] scope _ => c.calm && (notSet iter && (blkB c scope t.slots && (chkG (c.comp scope) t tg && (chkI it c tg iter && (chkE el (c.comp scope) x && (match fs with
      | [] => ifs.isTt
      | [y] => chkT ifs (c.comp scope) y
      | _ => false))))))
    | _ => false
  | .addO a b, c, e => match e with
    | .BinOp l op r _ => decide (op = .Add) && (chkE a c l && chkE b c r)
    | _ => false
  | .sorset a, c, e => match e with
    | .Call (.Name i _) [.Call (.Name j _) [x] [] _] [] _ => c.calm && (decide (i = "sorted") && (gl c i && (decide (j = "set") && (gl c j && (nst x && chkE a c x)))))
    | _ => false
  | .cnt a b, c, e => match e with
    | .Call (.Attribute o i p) [x] [] q => decide (i = "count") && (noSup o && (p.endLine == q.line && (nst x && (chkE a c o && chkE b c x))))
    | _ => false
  | .lc2 el t1 i1 c1 t2 i2 c2, c, e => match e with
    | .ListComp x [⟨tg, iter, fs, 0⟩, ⟨tg1, iter1, fs1, 0⟩] scope _ => c.calm && (notSet iter && (notSet iter1 && (blkB c scope (t1.slots ++ t2.slots) && (chkG (c.comp scope) t1 tg && (chkG (c.comp scope) t2 tg1 && (chkI i1 c tg iter && (chkI i2 (c.comp scope) tg1 iter1 && (chkE el (c.comp scope) x && ((match fs with
      | [] => c1.isTt
      | [y] => chkT c1 (c.comp scope) y
      | _ => false) && (match fs1 with
      | [] => c2.isTt
      | [y] => chkT c2 (c.comp scope) y
      | _ => false))))))))))
    | _ => false
  | .lcV el t a ifs, c, e => match e with
    | .ListComp x [⟨tg, iter, fs, 0⟩] scope _ => c.calm && (notSet iter && (blkB c scope t.slots && (chkG (c.comp scope) t tg && (chkE a c iter && (chkE el (c.comp scope) x && (match fs with
      | [] => ifs.isTt
      | [y] => chkT ifs (c.comp scope) y
      | _ => false))))))
    | _ => false
  | .bad, _, _ => true
  | .dic0, _, e => match e with
    | .Dict [] [] _ => true
    | _ => false
  | .dget a k d, c, e => match e with
    | .Call (.Attribute o i p) [x, y] [] q => decide (i = "get") && (noSup o && (p.endLine == q.line && (nst x && (nst y && (chkE a c o && (chkE k c x && chkE d c y))))))
    | _ => false
  | .dictO a, c, e => match e with
    | .Call (.Name i _) [x] [] _ => decide (i = "dict") && (gl c i && (nst x && chkE a c x))
    | _ => false
  | .dcO ek ev t it ifs, c, e => match e with
    | .DictComp kx vx [⟨tg, iter, fs, 0⟩] scope _ => c.calm && (notSet iter && (blkB c scope t.slots && (chkG (c.comp scope) t tg && (chkI it c tg iter && (chkE ek (c.comp scope) kx && (chkE ev (c.comp scope) vx && (match fs with
      | [] => ifs.isTt
      | [y] => chkT ifs (c.comp scope) y
      | _ => false)))))))
    | _ => false
  | .ow o a b _ _, c, e => match e with
    | .BinOp l op r _ => c.calm && (decide (o.bop = some op) && (chkE a c l && chkE b c r))
    | .Compare l [op] [r] _ => c.calm && (decide (o.cop = some op) && (!behindInMarks op r && (chkE a c l && chkE b c r)))
    | .Subscript l r _ => c.calm && (o.isIx && (notSlice r && (chkE a c l && chkE b c r)))
    | _ => false
  | .callO a _ _ as, c, e => match e with
    | .Call f (x :: xs) [] _ => c.calm && (plainF f && (chkE a c f && (nst x && (xs.all nst && chkA as c (x :: xs)))))
    | _ => false
  | .isiO a k, c, e => match e with
    | .Call (.Name i _) [o, .Name y _] [] _ => decide (i = "isinstance") && (gl c i && (decide (y = k) && (gl c y && (ndb y && (nst o && chkE a c o)))))
    | _ => false
  | .sortK a, c, e => match e with
    | .Call (.Name i _) [x] [⟨k, .Name y _, _⟩] _ => c.calm && (decide (i = "sorted") && (gl c i && (decide (k = some "key") && (decide (y = "str") && (gl c y && (nst x && chkE a c x))))))
    | _ => false
  | .dmrg a b, c, e => match e with
    | .Dict [none, none] [l, r] _ => chkE a c l && chkE b c r
    | _ => false
  | .lenset a, c, e => match e with
    | .Call (.Name i _) [.Call (.Name j _) [x] [] _] [] _ => c.calm && (decide (i = "len") && (gl c i && (decide (j = "set") && (gl c j && (nst x && chkE a c x)))))
    | _ => false
  | .ext a b, c, e => match e with
    | .Call (.Attribute o i p) [x] [] q => decide (i = "extend") && (noSup o && (p.endLine == q.line && (nst x && (chkE a c o && chkE b c x))))
    | _ => false
  | .insat a i b, c, e => match e with
    | .Call (.Attribute o m p) [x, y] [] q => decide (m = "insert") && (noSup o && (p.endLine == q.line && (nst x && (nst y && (chkE a c o && (chkE i c x && chkE b c y))))))
    | _ => false
  | .dic1 k v, c, e => match e with
    | .Dict [some x] [y] _ => chkE k c x && chkE v c y
    | _ => false
  | .tidx _ _, _, _ => false
  | .callK _ _ _ _ _ _, _, _ => false
  | .lam _ _ _ _, _, _ => false
  | .act _ _, _, _ => false
def chkO : Po → Cc → Option Expr → Bool
  | .no, _, o => o.isNone
  | .at a, c, o => match o with
    | some e => chkE a c e
    | none => false
def chkA : As → Cc → List Expr → Bool
  | .nil, _, es => es.isEmpty
  | .cons a r, c, es => match es with
    | e :: es => nst e && (chkE a c e && chkA r c es)
    | [] => false
  | .ref a r, c, es => match es with
    | e :: es => nst e && (chkE a c e && chkA r c es)
    | [] => false
  | .star a r, c, es => match es with
    | .Starred e _ :: es => chkE a c e && chkA r c es
    | _ => false
def chkT : T → Cc → Expr → Bool
  | .tt, _, _ => false
  | .v a, c, e => chkE a c e && (match e with
    | .Compare _ [_] [_] _ => a.isCmp
    | .Compare _ [_, _] [_, _] _ => a.isChn
    | e => plainT e)
  | .and a b, c, e => match e with
    | .BoolOp .And (l :: r :: rest) p => chkT a c l && chkT b c (.BoolOp .And (r :: rest) p)
    | _ => false
  | .or a b, c, e => match e with
    | .BoolOp .Or (l :: r :: rest) p => chkT a c l && chkT b c (.BoolOp .Or (r :: rest) p)
    | _ => false
  | .one a, c, e => match e with
    | .BoolOp _ [l] _ => chkT a c l
    | _ => false
  | .not a, c, e => match e with
    | .UnaryOp .Not l _ => chkT a c l
    | _ => false
def chkI : It → Cc → Expr → Expr → Bool
  | .seq a, c, _, e => chkE a c e
  | .rng a, c, _, e => match e with
    | .Call (.Name i _) [x] [] _ => decide (i = "range") && (gl c i && (nst x && chkE a c x))
    | _ => false
  | .rng2 a b, c, _, e => match e with
    | .Call (.Name i _) [x, y] [] _ => decide (i = "range") && (gl c i && (nst x && (nst y && (chkE a c x && chkE b c y))))
    | _ => false
  | .enm a, c, tg, e => match tg, e with
    | .Tuple _ _ _, .Call (.Name i _) [x] [] _ => decide (i = "enumerate") && (gl c i && (nst x && chkE a c x))
    | _, _ => false
  | .zip a b, c, tg, e => match tg, e with
    | .Tuple _ _ _, .Call (.Name i _) [x, y] [] _ => decide (i = "zip") && (gl c i && (nst x && (nst y && (chkE a c x && chkE b c y))))
    | _, _ => false
end
end DL

namespace DL
open PySem PySem.Spec PyProof.Rows L2

theorem nst_ne {e : Expr} (h : nst e = true) : ∀ x p, e ≠ .Starred x p := by
  rintro x p rfl; cases h
theorem star1 {e : Expr} {es : List Expr} {env : Env} (h : nst e = true) : starEach (e :: es) env = (false, eval e env) :: starEach es env := notStar (nst_ne h) es env
theorem starsF {env : Env} : ∀ {es : List Expr}, es.all nst = true → (starEach es env).any (·.1) = false
  | [], _ => rfl
  | e :: es, h => by
    rw [List.all_cons, Bool.and_eq_true] at h
    rw [star1 h.1, List.any_cons, starsF h.2]
    rfl
theorem backAny {pos : Pos} {l : List (Bool × Sem Value)} : (backTo pos l).any (·.1) = l.any (·.1) := by
  unfold backTo
  induction l with
  | nil => rfl
  | cons q l ih => rw [List.map_cons, List.any_cons, List.any_cons, ih]
theorem stars0 {env : Env} {pos : Pos} {es : List Expr} (h : es.all nst = true) : (backTo pos (starEach es env)).any (·.1) = false := backAny.trans (starsF h)
theorem methF {env : Env} {pos : Pos} {es : List Expr} (h : es.all nst = true) (hl : es.length < 29) : methodCallForm (es.length + ([] : List Keyword).length) (backTo pos (starEach es env)) (backToKw pos (keywordEach [] env)) = true := by
  have h1 := stars0 (pos := pos) (env := env) h
  unfold methodCallForm
  have h2 : (backTo pos (starEach es env)).all (fun x => !x.1) = true := by
    rw [List.all_eq_true]
    intro x hx
    cases q : x.1 with
    | false => rfl
    | true => rw [List.any_eq_true.mpr ⟨x, hx, q⟩] at h1; cases h1
  rw [h2]
  simp [backToKw, keywordEach]
  omega
theorem attrB {o : Expr} {m : Str} {env : Env} (h : noSup o = true) : attributeBase o m env (eval o env) = eval o env := by
  unfold attributeBase
  split
  · cases h
  · rfl
theorem trueV {e : Expr} {env : Env} (h : plainT e = true) : ∀ whole, isTrue e env whole = (do let v ← whole; standAt e.pos; holding [v] (truthy v)) := by
  intro whole
  unfold PySem.isTrue
  split
  · cases h
  · cases h
  · cases h
  · cases h
  · rfl
theorem ixP {r : Expr} (h : notSlice r = true) : PlainIx r := by
  intro o i
  unfold subscripted
  split
  · cases h
  · rename_i q; cases q
  · rfl
theorem ixT {r : Expr} (h : notSlice r = true) : ∀ v u, subscripted r true v u = runValue (.builtin "lifetime.subscript" ⟨[v, u], []⟩) := by
  intro o i
  unfold subscripted
  split
  · cases h
  · rfl
  · rename_i q; cases q
theorem callF {f : Expr} {es : List Expr} {pos : Pos} {env : Env} (h : plainF f = true) : eval (.Call f es [] pos) env = (do callWith pos (← eval f env) [] (backTo pos (starEach es env)) (backToKw pos (keywordEach [] env))) := by
  cases f <;> first | (cases h; done) | rfl
theorem setF {e : Expr} {env : Env} (h : notSet e = true) : ∀ x, foldedSetIterable e env x = pure x := by
  intro x
  unfold foldedSetIterable
  split
  · cases h
  · rfl

section
variable {en : En} {c : Cc} {pn : List (Addr × Obj)} {X : Cx} {W : WX}
theorem At.gl (h : At en c pn X W) {x : Str} (g : DL.gl c x = true) : Gl X x := by
  show X.env.scope.names.lookup x = _
  rw [h.sc]; exact of_decide_eq_true g
theorem At.free (h : At en c pn X W) {x : Str} (g : x ∈ bltNames) : X.mg x = none := by rw [h.mg]; exact h.blt x g
theorem At.ct (h : At en c pn X W) : Ct X W := ⟨h.nd, h.un, h.tk⟩
theorem At.sto (h : At en c pn X W) {i : Nat} {x : Str} (s : DL.sto c i x = true) : X.N[i]? = some x ∧ Loc X.env.scope x ∧ (X.fn x = true ∨ X.env.scope.names.lookup x = some .local) := by
  unfold DL.sto at s
  rw [Bool.and_eq_true, Bool.or_eq_true, Bool.and_eq_true] at s
  obtain ⟨s1, s2⟩ := s
  refine ⟨by rw [h.N]; exact of_decide_eq_true s1, ?_⟩
  rcases s2 with s2 | ⟨s2, s3⟩
  · have z : X.env.scope.names.lookup x = some .local := by rw [h.sc]; exact of_decide_eq_true s2
    exact ⟨.inl z, .inr z⟩
  · have z : X.env.scope.names.lookup x = some .cell := by rw [h.sc]; exact of_decide_eq_true s3
    exact ⟨.inr z, .inl (h.fn x s2)⟩
theorem okGs (h : At en c pn X W) : ∀ {is : List Nat} {es : List Expr}, tgL c is es = true → PGs X es (gNames is) ∧ (assignEach es X.env).length = is.length ∧ (assignEach es X.env).findIdx? (·.1) = none
  | [], [], _ => ⟨pgs_nil, rfl, rfl⟩
  | i :: is, .Name x p :: es, g => by
    unfold tgL at g
    rw [Bool.and_eq_true] at g
    obtain ⟨s1, s2, s3⟩ := h.sto g.1
    obtain ⟨r1, r2, r3⟩ := okGs h g.2
    refine ⟨pgs_cons (pg_name h.nd s1 s2 s3) r1 rfl, ?_, ?_⟩
    · show (assignEach es X.env).length + 1 = _; rw [r2]; rfl
    · show List.findIdx? (·.1) ((false, assign (.Name x p) X.env) :: assignEach es X.env) = none
      rw [List.findIdx?_cons]; simp [r3]
theorem okG (h : At en c pn X W) (hc : X.calm = true) {t : Tg} {e : Expr} (g : chkG c t e = true) : PG X e (gOf X.K t) := by
  unfold chkG at g
  split at g
  · obtain ⟨s1, s2, s3⟩ := h.sto g
    exact pg_name h.nd s1 s2 s3
  · obtain ⟨r1, r2, r3⟩ := okGs h g
    exact pg_tup hc r1 r2 r3
  · cases g
theorem ownOf_ix {N : List Str} {is : List Nat} (h : (is.all fun i => decide (i < N.length)) = true) : ∀ p ∈ ownOf N is, N[p.2]? = some p.1 := by
  intro p hp
  obtain ⟨i, hi, rfl⟩ := List.mem_map.mp hp
  have := of_decide_eq_true (List.all_eq_true.mp h i hi)
  simp [List.getD, this]
theorem ownOf_map {N : List Str} {is : List Nat} : (ownOf N is).map (·.2) = is := by
  unfold ownOf
  rw [List.map_map]
  exact List.map_id' is
theorem blk_of {scope : Scope} {is : List Nat} (h : blkB c scope is = true) : BlkOk c.N c.sc scope (ownOf c.N is) := by
  unfold blkB at h
  simp only [Bool.and_eq_true] at h
  obtain ⟨h1, h2, h3, h4, h5⟩ := h
  refine ⟨beq_iff_eq.mp h1, fun y hy => of_decide_eq_true (List.all_eq_true.mp h2 y hy), ownOf_ix h3, fun y hy hf => ?_, fun y hy hl => ?_⟩
  · have z := List.all_eq_true.mp h4 y hy
    rw [hf] at z
    rw [Bool.or_eq_true, Bool.or_eq_true] at z
    rcases z with z | z | z
    · cases z
    · exact .inl (of_decide_eq_true z)
    · exact .inr (of_decide_eq_true z)
  · have z := List.all_eq_true.mp h5 y hy
    rw [Bool.or_eq_true, Bool.or_eq_true] at z
    rcases z with z | z | z
    · rcases hl with hl | hl <;> rw [hl] at z <;> cases z
    · exact .inl (List.contains_iff_mem.mp z)
    · exact .inr fun m => by rw [List.contains_iff_mem.mpr m] at z; cases z
theorem At.comp (h : At en c pn X W) (hc : c.calm = true) {scope : Scope} (hk : scope.kind = .function) (s : Shared) (H : Hp) (C : Addr) (cl : List (Str × Addr)) (fp : List Addr) : At en (c.comp scope) [] (X.blk s H scope (compEnvC scope cl C X.env) fp) noX where
  prog := h.prog
  w := h.w
  K := h.K
  mg := h.mg
  base := h.base
  N := h.N
  sc := by show relabel scope X.env = relS scope c.sc; rw [← h.sc]; rfl
  nd := h.nd
  un := h.un
  room := fun _ => h.room hc
  calm := fun _ => h.calm hc
  tk := fun u s' x => by
    obtain ⟨_, _, _, _, _, _, _, _, _, _, _, _, _, _, _, _, w⟩ := x
    exact w.elim
  fn := fun x z => z
  pass := fun z => nomatch z
  stk := fun z => nomatch z
  kind := hk
  pns := fun q hq => nomatch hq
  pn0 := fun _ => rfl
  blt := h.blt
  gd := h.gd
theorem okC (h : At en c pn X W) {d : D} {e : Expr} (g : chkC d e = true) : PE X e (tE X.K pn W (.cst d)) := by
  unfold chkC at g
  split at g
  · exact d_const pe_non fun _ => R.non
  · obtain rfl := beq_iff_eq.mp g; exact d_const pe_bl fun _ => R.bl _
  · obtain rfl := of_decide_eq_true g; exact d_const pe_int fun _ => R.int _
  · obtain rfl := of_decide_eq_true g
    rename_i j k p p'
    refine d_const (v := .int (-j)) (PE.imp (pe_un un_neg pe_int) fun σ H Q q => ⟨j, rfl, q⟩) fun _ => R.int _
  · obtain rfl := of_decide_eq_true g; exact d_const pe_str fun _ => R.str _
  · cases g
theorem cvP (h : At en c pn X W) {x : Str} {cu : Value} (cv : en.Cv x cu) {p : Pos} (g : DL.gl c x = true) (hd : ndb x = true) : ∃ v : V, PE X (.Name x p) (tC v) ∧ ∀ u, RelV v u → u = cu := by
  have hd' : (x == ("__debug__" : Str)) = false := by unfold ndb at hd; simpa using hd
  obtain ⟨h1, v, rv, uq⟩ := cv
  rcases h1 with h1 | ⟨h1, h2, h3⟩
  · exact ⟨v, pe_glob (h.gl g) (by rw [h.mg]; exact h1) rv hd', uq⟩
  · exact ⟨v, pe_bltn (h.gl g) (by rw [h.mg]; exact h1) h2 rv h3 hd', uq⟩
end
end DL

namespace DL
open PySem PySem.Spec PyProof.Rows L2

theorem ndbF {x : Str} (h : ndb x = true) : (x == ("__debug__" : Str)) = false := by unfold ndb at h; simpa using h
section
variable {en : En}
theorem En.Me.call {n : En} {c m : Str} {S : Spc} (h : n.Me c m S) : ∃ fa, Cls n.K (He.ga n.K c) ∧ Meth n.K (He.ga n.K c) m fa ∧ CallOk n.P n.w n.K n.mg n.base n.k fa (lift n.K S) := by
  obtain ⟨cl, fa, j, h1, h2, h3⟩ := h
  exact ⟨fa, cl, h1, (FnR.callOk h2).mono (by omega)⟩
theorem En.Ow.at_ {n : En} {o : Oo} {k : Str} {S : Spc} {c : Cc} {pn : List (Addr × Obj)} {X : Cx} {W : WX} (d : n.Ow o k S) (h : At n c pn X W) (g : c.calm = true) : ∃ fa j, MeR X k o.nm fa j S ∧ Room (j + 1) X.A ∧ owB X.K o (He.ga X.K k) fa = true := by
  obtain ⟨fa, j, d1, d2, d3, d4⟩ := d
  refine ⟨fa, j, ⟨?_, ?_⟩, (h.room g).mono d3, ?_⟩
  · rw [h.K]; exact d1
  · rw [h.prog, h.w, h.K, h.mg, h.base]; exact d2
  · rw [h.K]; exact d4
def isBl : Expr → Bool
  | .BoolOp _ _ _ => true
  | _ => false
mutual
theorem okE : ∀ (a : E) {c : Cc} {e : Expr} {pn : List (Addr × Obj)} {X : Cx} {W : WX}, At en c pn X W → chkE a c e = true → GdE en a → PE X e (tE X.K pn W a)
  | .var i, c, e, pn, X, W, h, g, d => by
    simp only [chkE] at g
    split at g
    · simp only [Bool.and_eq_true] at g
      obtain ⟨g1, g2, g3, g4⟩ := g
      refine d_var (by rw [h.N]; exact of_decide_eq_true g1) ?_ (ndbF g3) (by simpa using g4)
      unfold vis at g2
      simp only [Bool.or_eq_true] at g2
      unfold Vis
      rw [h.sc]
      exact g2.imp of_decide_eq_true fun z => z.imp of_decide_eq_true of_decide_eq_true
    · cases g
  | .cst v, c, e, pn, X, W, h, g, d => by
    simp only [chkE] at g
    exact okC h g
  | .glb y v, c, e, pn, X, W, h, g, d => by
    simp only [chkE] at g
    split at g
    · simp only [Bool.and_eq_true] at g
      obtain ⟨g1, g2, g3⟩ := g
      obtain rfl := of_decide_eq_true g1
      obtain ⟨u, v', h1, h2, h3⟩ := d
      exact d_glb (pe_glob (h.gl g2) (by rw [h.mg]; exact h1) h2 (ndbF g3)) fun F => by rw [h.K]; exact h3 F
    · cases g
  | .bin o a b, c, e, pn, X, W, h, g, d => by
    simp only [chkE] at g
    split at g
    · simp only [Bool.and_eq_true] at g
      obtain ⟨g1, g2, g3⟩ := g
      obtain rfl := of_decide_eq_true g1
      exact d_bin (okE a h g2 d.1) (okE b h g3 d.2)
    · cases g
  | .cmp o a b, c, e, pn, X, W, h, g, d => by
    simp only [chkE] at g
    split at g
    · simp only [Bool.and_eq_true, Bool.not_eq_true'] at g
      obtain ⟨g1, g2, g3, g4⟩ := g
      obtain rfl := of_decide_eq_true g1
      exact d_cmp h.ct (okE a h g3 d.1) (okE b h g4 d.2) g2
    · cases g
  | .chn o o' a b f, c, e, pn, X, W, h, g, d => by
    simp only [chkE] at g
    split at g
    · simp only [Bool.and_eq_true, Bool.not_eq_true'] at g
      obtain ⟨g1, g2, g3, g4, g5, g6, g7⟩ := g
      obtain rfl := of_decide_eq_true g1
      obtain rfl := of_decide_eq_true g2
      exact d_chn h.ct (okE a h g5 d.1) (okE b h g6 d.2.1) (okE f h g7 d.2.2) g3 g4
    · cases g
  | .and a b, c, e, pn, X, W, h, g, d => by
    simp only [chkE] at g
    split at g
    · simp only [Bool.and_eq_true] at g
      exact d_and (okE a h g.1 d.1) (okE b h g.2 d.2)
    · cases g
  | .or a b, c, e, pn, X, W, h, g, d => by
    simp only [chkE] at g
    split at g
    · simp only [Bool.and_eq_true] at g
      exact d_or (okE a h g.1 d.1) (okE b h g.2 d.2)
    · cases g
  | .one a, c, e, pn, X, W, h, g, d => by
    simp only [chkE] at g
    split at g
    · exact d_one (okE a h g d)
    · cases g
  | .not a, c, e, pn, X, W, h, g, d => by
    simp only [chkE] at g
    split at g
    · exact d_not (okE a h g d)
    · cases g
  | .ife t a b, c, e, pn, X, W, h, g, d => by
    simp only [chkE] at g
    split at g
    · simp only [Bool.and_eq_true] at g
      exact d_ife (okT t h g.1 d.1).1 (okE a h g.2.1 d.2.1) (okE b h g.2.2 d.2.2)
    · cases g
  | .ix a b, c, e, pn, X, W, h, g, d => by
    simp only [chkE] at g
    split at g
    · simp only [Bool.and_eq_true] at g
      exact d_ix h.un (okE a h g.2.1 d.1) (okE b h g.2.2 d.2) (ixP g.1)
    · cases g
  | .sl a l r, c, e, pn, X, W, h, g, d => by
    simp only [chkE] at g
    split at g
    · simp only [Bool.and_eq_true] at g
      exact d_sl (okE a h g.1 d.1) (okO l h g.2.1 d.2.1) (okO r h g.2.2 d.2.2)
    · cases g
  | .rev a, c, e, pn, X, W, h, g, d => by
    simp only [chkE] at g
    split at g
    · simp only [Bool.and_eq_true] at g
      obtain rfl := of_decide_eq_true g.1
      exact d_rev (okE a h g.2 d)
    · cases g
  | .fld a k f, c, e, pn, X, W, h, g, d => by
    simp only [chkE] at g
    split at g
    · simp only [Bool.and_eq_true] at g
      obtain rfl := of_decide_eq_true g.1
      exact d_fld (okE a h g.2.2 d.2) (by rw [h.K]; exact d.1.1) (by rw [h.K]; exact d.1.2) (attrB g.2.1)
    · cases g
  | .xfld a f cs, c, e, pn, X, W, h, g, d => by
    simp only [chkE] at g
    split at g
    · simp only [Bool.and_eq_true] at g
      obtain rfl := of_decide_eq_true g.1
      exact d_xfld h.pns (okE a h g.2.2 d.2) (by rw [h.K]; exact d.1) (attrB g.2.1)
    · cases g
  | .xisi a x tab, c, e, pn, X, W, h, g, d => by
    simp only [chkE] at g
    split at g
    · simp only [Bool.and_eq_true] at g
      obtain ⟨g1, g2, g3, g4, g5, g6, g7⟩ := g
      obtain rfl := of_decide_eq_true g1
      obtain rfl := of_decide_eq_true g3
      obtain ⟨cu, c1, c2⟩ := d.1
      obtain ⟨v, p1, p2⟩ := cvP h c1 g4 g5
      exact d_xisi h.pns (h.gl g2) (h.free (by decide)) (okE a h g7 d.2) p1 p2 (by rw [h.K]; exact c2) (star1 g6) rfl
    · cases g
  | .lenO a k S, c, e, pn, X, W, h, g, d => by
    simp only [chkE] at g
    split at g
    · simp only [Bool.and_eq_true] at g
      obtain ⟨g1, g2, g3, g4, g5⟩ := g
      obtain rfl := of_decide_eq_true g2
      obtain ⟨⟨cl, fa, j, m1, m2, m3⟩, d2⟩ := d
      refine d_lenO (k := j) (fa := fa) (h.gl g3) (h.free (by decide)) (okE a h g5 d2) (by rw [h.K]; exact m1) ?_ ((h.room g1).mono m3) h.tk (star1 g4)
      rw [h.prog, h.w, h.K, h.mg, h.base]; exact m2
    · cases g
  | .bi f as, c, e, pn, X, W, h, g, d => by
    simp only [chkE] at g
    split at g
    · simp only [Bool.and_eq_true] at g
      obtain ⟨g1, g2, g3, g4, g5, g6, g7⟩ := g
      obtain rfl := of_decide_eq_true g2
      refine d_bi (fun z => h.calm (by rw [z, Bool.or_false] at g1; exact g1)) h.un h.gd ?_ (h.gl g3) (h.free ?_) (okA as h g7 d) (star1 g4) (stars0 g5)
      · cases f <;> first | (cases g6; done) | exact ⟨(fun z => nomatch z), (fun z => nomatch z)⟩
      · cases f <;> first | (cases g6; done) | decide
    · cases g
  | .isi a t, c, e, pn, X, W, h, g, d => by
    simp only [chkE] at g
    split at g
    · simp only [Bool.and_eq_true] at g
      obtain ⟨g0, g1, g2, g3, g4, g6, g7⟩ := g
      obtain rfl := of_decide_eq_true g1
      obtain rfl := of_decide_eq_true g3
      refine d_isi g0 (h.gl g2) (h.free (by decide)) (h.gl g4) (h.free ?_) (okE a h g7 d) (star1 g6)
      cases t <;> first | (cases g0; done) | decide
    · simp only [Bool.and_eq_true] at g
      obtain ⟨g0, g1, g2, g3, g4, g5, g6, g7, g8⟩ := g
      obtain rfl := of_decide_eq_true g1
      obtain rfl := of_decide_eq_true g3
      obtain rfl := of_decide_eq_true g5
      cases t <;> first | (cases g0; done) | skip
      exact d_isi2 (h.gl g2) (h.free (by decide)) (h.gl g4) (h.free (by decide)) (h.gl g6) (h.free (by decide)) (okE a h g8 d) (star1 g7)
    · cases g
  | .tup as, c, e, pn, X, W, h, g, d => by
    simp only [chkE] at g
    split at g
    · exact d_tup (okA as h g d)
    · cases g
  | .lst as, c, e, pn, X, W, h, g, d => by
    simp only [chkE] at g
    split at g
    · exact d_lst (okA as h g d)
    · cases g
  | .lc el t it ifs, c, e, pn, X, W, h, g, d => by
    simp only [chkE] at g
    split at g
    · simp only [Bool.and_eq_true] at g
      obtain ⟨g1, g2, g3, g4, g5, g6, g7⟩ := g
      have hb := blk_of g3
      have ha := fun s H C cl fp => h.comp g1 hb.kind s H C cl fp
      obtain rfl := h.pn0 g1
      refine d_lc (h.calm g1) h.nd (okI it h g5 d.2.1) (by rw [h.N, h.sc]; exact hb) ownOf_map (fun s H C cl fp => okG (ha s H C cl fp) (h.calm g1) g4) (fun s H C cl fp => ?_) (fun s H C cl fp => okE el (ha s H C cl fp) g6 d.1) (setF g2)
      split at g7
      · cases ifs <;> first | (cases g7; done) | skip
        exact ⟨fun pins s σ H Q I ⟨F, α, ρ, μ, hd, sl, w⟩ => pts_nil.run pins s σ H Q I (w F α H .refl hd)⟩
      · exact pts_one (okT ifs (ha s H C cl fp) g7 d.2.2).1
      · cases g7
    · cases g
  | .call f S as, c, e, pn, X, W, h, g, d => by
    simp only [chkE] at g
    split at g
    · simp only [Bool.and_eq_true] at g
      obtain ⟨g1, g2, g3, g4, g5⟩ := g
      obtain rfl := of_decide_eq_true g2
      cases as <;> first | (cases g5; done) | skip
      obtain ⟨⟨f1, f2, f3⟩, _⟩ := d
      refine d_call0 (k := en.k) (fa := He.ga X.K _) ?_ (h.room g1) h.tk (by rw [h.mg, h.K]; exact f1) (by rw [h.K]; exact f2) (h.gl g3) (ndbF g4)
      rw [h.prog, h.w, h.K, h.mg, h.base]; exact f3
    · rename_i i0 p0 x0 xs p1
      simp only [Bool.and_eq_true, Bool.or_eq_true] at g
      obtain ⟨g1, g2, g3, g4, g5, g6⟩ := g
      obtain rfl := of_decide_eq_true g2
      obtain ⟨⟨f1, f2, f3⟩, d2⟩ := d
      have fc : CallOk X.prog X.w X.K X.mg X.base en.k (He.ga X.K i0) (lift X.K S) := by rw [h.prog, h.w, h.K, h.mg, h.base]; exact f3
      rcases g5 with g5 | ⟨g5, g7⟩
      · exact d_call (k := en.k) fc (h.room g1) h.tk (by rw [h.mg, h.K]; exact f1) (by rw [h.K]; exact f2) (h.gl g3) (ndbF g4) (okA as h g6 d2) (star1 g5)
      · cases xs with
        | cons _ _ => cases g5
        | nil =>
          cases as with
          | star a r =>
            cases r <;> first | (cases g7; done) | skip
            simp only [chkA] at g6
            split at g6
            · rename_i heq
              cases heq
              simp only [Bool.and_eq_true] at g6
              exact d_callS (k := en.k) fc (h.room g1) h.tk (by rw [h.mg, h.K]; exact f1) (by rw [h.K]; exact f2) (h.gl g3) (ndbF g4) (okE a h g6.1 d2.1)
            · cases g6
          | _ => cases g7
    · cases g
  | .meth a k m S as, c, e, pn, X, W, h, g, d => by
    simp only [chkE] at g
    split at g
    · simp only [Bool.and_eq_true] at g
      obtain ⟨g1, g2, g3, g4, g5, g6⟩ := g
      obtain rfl := of_decide_eq_true g2
      cases as <;> first | (cases g6; done) | skip
      obtain ⟨fa, cl, m1, m2⟩ := d.1.call
      refine d_meth0 (k := en.k) (fa := fa) (okE a h g5 d.2.1) (by rw [h.K]; exact cl) (by rw [h.K]; exact m1) ?_ (h.room g1) h.tk (attrB g3) g4
      rw [h.prog, h.w, h.K, h.mg, h.base]; exact m2
    · simp only [Bool.and_eq_true] at g
      obtain ⟨g1, g2, g3, g4, g5, g6, g7, g8, g9⟩ := g
      obtain rfl := of_decide_eq_true g2
      obtain ⟨fa, cl, m1, m2⟩ := d.1.call
      have gl : (_ :: _ : List Expr).all nst = true := List.all_cons.trans (Bool.and_eq_true_iff.mpr ⟨g6, g7⟩)
      refine d_meth (k := en.k) (fa := fa) (okE a h g5 d.2.1) (by rw [h.K]; exact cl) (by rw [h.K]; exact m1) ?_ (h.room g1) h.tk (okA as h g9 d.2.2) (star1 g6) (stars0 g7) (attrB g3) (methF gl (by have := of_decide_eq_true g8; simp; omega)) g4
      rw [h.prog, h.w, h.K, h.mg, h.base]; exact m2
    · cases g
  | .app a b, c, e, pn, X, W, h, g, d => by
    simp only [chkE] at g
    split at g
    · simp only [Bool.and_eq_true] at g
      obtain ⟨g1, g2, g3, g4, g5, g6⟩ := g
      obtain rfl := of_decide_eq_true g1
      exact d_app (okE a h g5 d.1) (okE b h g6 d.2) (attrB g2) g3 (nst_ne g4)
    · cases g
  | .popat a b, c, e, pn, X, W, h, g, d => by
    simp only [chkE] at g
    split at g
    · simp only [Bool.and_eq_true] at g
      obtain ⟨g1, g2, g3, g4, g5, g6⟩ := g
      obtain rfl := of_decide_eq_true g1
      exact d_popat (okE a h g5 d.1) (okE b h g6 d.2) (attrB g2) g3 (nst_ne g4)
    · cases g
  | .lstO as, c, e, pn, X, W, h, g, d => by
    simp only [chkE] at g
    split at g
    · exact d_lstO (okA as h g d)
    · cases g
  | .listO as, c, e, pn, X, W, h, g, d => by
    simp only [chkE] at g
    split at g
    · simp only [Bool.and_eq_true] at g
      obtain ⟨g1, g2, g3, g4, g5, g6⟩ := g
      obtain rfl := of_decide_eq_true g2
      exact d_listO (h.calm g1) (h.gl g3) (h.free (by decide)) (okA as h g6 d) (star1 g4) (stars0 g5)
    · cases g
  | .lcO el t it ifs, c, e, pn, X, W, h, g, d => by
    simp only [chkE] at g
    split at g
    · simp only [Bool.and_eq_true] at g
      obtain ⟨g1, g2, g3, g4, g5, g6, g7⟩ := g
      have hb := blk_of g3
      have ha := fun s H C cl fp => h.comp g1 hb.kind s H C cl fp
      obtain rfl := h.pn0 g1
      refine d_lcO (h.calm g1) h.nd (okI it h g5 d.2.1) (by rw [h.N, h.sc]; exact hb) ownOf_map (fun s H C cl fp => okG (ha s H C cl fp) (h.calm g1) g4) (fun s H C cl fp => ?_) (fun s H C cl fp => okE el (ha s H C cl fp) g6 d.1) (setF g2)
      split at g7
      · cases ifs <;> first | (cases g7; done) | skip
        exact ⟨fun pins s σ H Q I ⟨F, α, ρ, μ, hd, sl, w⟩ => pts_nil.run pins s σ H Q I (w F α H .refl hd)⟩
      · exact pts_one (okT ifs (ha s H C cl fp) g7 d.2.2).1
      · cases g7
    · cases g
  | .addO a b, c, e, pn, X, W, h, g, d => by
    simp only [chkE] at g
    split at g
    · simp only [Bool.and_eq_true] at g
      obtain ⟨g1, g2, g3⟩ := g
      obtain rfl := of_decide_eq_true g1
      exact d_addO (okE a h g2 d.1) (okE b h g3 d.2)
    · cases g
  | .sorset a, c, e, pn, X, W, h, g, d => by
    simp only [chkE] at g
    split at g
    · simp only [Bool.and_eq_true] at g
      obtain ⟨g1, g2, g3, g4, g5, g6, g7⟩ := g
      obtain rfl := of_decide_eq_true g2
      obtain rfl := of_decide_eq_true g4
      exact d_sorset (h.calm g1) h.un (h.gl g3) (h.free (by decide)) (h.gl g5) (h.free (by decide)) (okE a h g7 d) (nst_ne g6)
    · cases g
  | .cnt a b, c, e, pn, X, W, h, g, d => by
    simp only [chkE] at g
    split at g
    · simp only [Bool.and_eq_true] at g
      obtain ⟨g1, g2, g3, g4, g5, g6⟩ := g
      obtain rfl := of_decide_eq_true g1
      exact d_cnt (okE a h g5 d.1) (okE b h g6 d.2) (attrB g2) g3 (nst_ne g4)
    · cases g
  | .lc2 el t1 i1 c1 t2 i2 c2, c, e, pn, X, W, h, g, d => by
    simp only [chkE] at g
    split at g
    · simp only [Bool.and_eq_true] at g
      obtain ⟨g1, g2, g2', g3, g4, g4', g5, g5', g6, g7, g8⟩ := g
      have hb := blk_of g3
      have ha := fun s H C cl fp => h.comp g1 hb.kind s H C cl fp
      obtain rfl := h.pn0 g1
      refine d_lc2 (h.calm g1) h.nd (okI i1 h g5 d.2.1) (by rw [h.N, h.sc]; exact hb) ownOf_map (fun s H C cl fp => okG (ha s H C cl fp) (h.calm g1) g4) (fun s H C cl fp => ?_) (fun s H C cl fp => okI i2 (ha s H C cl fp) g5' d.2.2.2.1) (fun s H C cl fp => okG (ha s H C cl fp) (h.calm g1) g4') (fun s H C cl fp => ?_) (fun s H C cl fp => okE el (ha s H C cl fp) g6 d.1) (setF g2) (fun _ => setF g2')
      · split at g7
        · cases c1 <;> first | (cases g7; done) | skip
          exact ⟨fun pins s σ H Q I ⟨F, α, ρ, μ, hd, sl, w⟩ => pts_nil.run pins s σ H Q I (w F α H .refl hd)⟩
        · exact pts_one (okT c1 (ha s H C cl fp) g7 d.2.2.1).1
        · cases g7
      · split at g8
        · cases c2 <;> first | (cases g8; done) | skip
          exact ⟨fun pins s σ H Q I ⟨F, α, ρ, μ, hd, sl, w⟩ => pts_nil.run pins s σ H Q I (w F α H .refl hd)⟩
        · exact pts_one (okT c2 (ha s H C cl fp) g8 d.2.2.2.2).1
        · cases g8
    · cases g
  | .lcV el t a ifs, c, e, pn, X, W, h, g, d => by
    simp only [chkE] at g
    split at g
    · simp only [Bool.and_eq_true] at g
      obtain ⟨g1, g2, g3, g4, g5, g6, g7⟩ := g
      have hb := blk_of g3
      have ha := fun s H C cl fp => h.comp g1 hb.kind s H C cl fp
      obtain rfl := h.pn0 g1
      refine d_lcV (h.calm g1) h.nd (okE a h g5 d.2.1) (by rw [h.N, h.sc]; exact hb) ownOf_map (fun s H C cl fp => okG (ha s H C cl fp) (h.calm g1) g4) (fun s H C cl fp => ?_) (fun s H C cl fp => okE el (ha s H C cl fp) g6 d.1) (setF g2)
      split at g7
      · cases ifs <;> first | (cases g7; done) | skip
        exact ⟨fun pins s σ H Q I ⟨F, α, ρ, μ, hd, sl, w⟩ => pts_nil.run pins s σ H Q I (w F α H .refl hd)⟩
      · exact pts_one (okT ifs (ha s H C cl fp) g7 d.2.2).1
      · cases g7
    · cases g
  | .bad, c, e, pn, X, W, h, g, d => d_bad
  | .dic0, c, e, pn, X, W, h, g, d => by
    simp only [chkE] at g
    split at g
    · exact d_dic0
    · cases g
  | .dget a k dd, c, e, pn, X, W, h, g, d => by
    simp only [chkE] at g
    split at g
    · simp only [Bool.and_eq_true] at g
      obtain ⟨g1, g2, g3, g4, g5, g6, g7, g8⟩ := g
      obtain rfl := of_decide_eq_true g1
      refine d_dget h.un (okE a h g6 d.1) (okE k h g7 d.2.1) (okE dd h g8 d.2.2) ⟨attrB g2, ?_, g3, ?_⟩
      · rw [star1 g4, star1 g5]; rfl
      · rw [star1 g4, star1 g5]; rfl
    · cases g
  | .dictO a, c, e, pn, X, W, h, g, d => by
    simp only [chkE] at g
    split at g
    · simp only [Bool.and_eq_true] at g
      obtain ⟨g1, g2, g3, g4⟩ := g
      obtain rfl := of_decide_eq_true g1
      exact d_dictO (h.gl g2) (h.free (by decide)) (okE a h g4 d) (nst_ne g3)
    · cases g
  | .dcO ek ev t it ifs, c, e, pn, X, W, h, g, d => by
    simp only [chkE] at g
    split at g
    · simp only [Bool.and_eq_true] at g
      obtain ⟨g1, g2, g3, g4, g5, g6, g6', g7⟩ := g
      have hb := blk_of g3
      have ha := fun s H C cl fp => h.comp g1 hb.kind s H C cl fp
      obtain rfl := h.pn0 g1
      refine d_dcO (h.calm g1) h.nd (okI it h g5 d.2.2.1) (by rw [h.N, h.sc]; exact hb) ownOf_map (fun s H C cl fp => okG (ha s H C cl fp) (h.calm g1) g4) (fun s H C cl fp => ?_) (fun s H C cl fp => okE ek (ha s H C cl fp) g6 d.1) (fun s H C cl fp => okE ev (ha s H C cl fp) g6' d.2.1) (setF g2)
      split at g7
      · cases ifs <;> first | (cases g7; done) | skip
        exact ⟨fun pins s σ H Q I ⟨F, α, ρ, μ, hd, sl, w⟩ => pts_nil.run pins s σ H Q I (w F α H .refl hd)⟩
      · exact pts_one (okT ifs (ha s H C cl fp) g7 d.2.2.2).1
      · cases g7
    · cases g
  | .ow o a b k S, c, e, pn, X, W, h, g, d => by
    obtain ⟨d1, d2, d3⟩ := d
    simp only [chkE] at g
    split at g
    · simp only [Bool.and_eq_true] at g
      obtain ⟨g1, g2, g3, g4⟩ := g
      obtain ⟨fa, j, M, hr, hb⟩ := d1.at_ h g1
      exact d_owB (of_decide_eq_true g2) M hb hr h.tk (okE a h g3 d2) (okE b h g4 d3)
    · simp only [Bool.and_eq_true, Bool.not_eq_true'] at g
      obtain ⟨g1, g2, g3, g4, g5⟩ := g
      obtain ⟨fa, j, M, hr, hb⟩ := d1.at_ h g1
      exact d_owC (of_decide_eq_true g2) h.un M hb hr h.tk (okE a h g4 d2) (okE b h g5 d3) g3
    · simp only [Bool.and_eq_true] at g
      obtain ⟨g1, g2, g3, g4, g5⟩ := g
      obtain ⟨fa, j, M, hr, hb⟩ := d1.at_ h g1
      cases o <;> first | (cases g2; done) | skip
      exact d_owI M hb hr h.tk (okE a h g4 d2) (okE b h g5 d3) (ixT g3)
    · cases g
  | .callO a k S as, c, e, pn, X, W, h, g, d => by
    simp only [chkE] at g
    split at g
    · simp only [Bool.and_eq_true] at g
      obtain ⟨g1, g2, g3, g4, g5, g6⟩ := g
      obtain ⟨⟨fa, j, d1, d2, d3⟩, d4, d5⟩ := d
      refine d_callO (c := k) (okE a h g3 d4) (by rw [h.K]; exact d1) (by rw [h.prog, h.w, h.K, h.mg, h.base]; exact d2) ((h.room g1).mono d3) h.tk (okA as h g6 d5) (callF g2) (star1 g4) (stars0 g5)
    · cases g
  | .sortK a, c, e, pn, X, W, h, g, d => by
    simp only [chkE] at g
    split at g
    · simp only [Bool.and_eq_true] at g
      obtain ⟨g1, g2, g3, g4, g5, g6, g7, g8⟩ := g
      obtain rfl := of_decide_eq_true g2
      obtain rfl := of_decide_eq_true g4
      obtain rfl := of_decide_eq_true g5
      exact d_sortK h.un (h.room g1).gd (h.gl g3) (h.free (by decide)) (h.gl g6) (h.free (by decide)) (okE a h g8 d) (nst_ne g7)
    · cases g
  | .lenset a, c, e, pn, X, W, h, g, d => by
    simp only [chkE] at g
    split at g
    · simp only [Bool.and_eq_true] at g
      obtain ⟨g1, g2, g3, g4, g5, g6, g7⟩ := g
      obtain rfl := of_decide_eq_true g2
      obtain rfl := of_decide_eq_true g4
      exact d_lenset (h.calm g1) (h.gl g3) (h.free (by decide)) (h.gl g5) (h.free (by decide)) (okE a h g7 d) (nst_ne g6)
    · cases g
  | .ext a b, c, e, pn, X, W, h, g, d => by
    simp only [chkE] at g
    split at g
    · simp only [Bool.and_eq_true] at g
      obtain ⟨g1, g2, g3, g4, g5, g6⟩ := g
      obtain rfl := of_decide_eq_true g1
      exact d_ext (okE a h g5 d.1) (okE b h g6 d.2) (attrB g2) g3 (nst_ne g4)
    · cases g
  | .insat a i b, c, e, pn, X, W, h, g, d => by
    simp only [chkE] at g
    split at g
    · simp only [Bool.and_eq_true] at g
      obtain ⟨g1, g2, g3, g4, g5, g6, g7, g8⟩ := g
      obtain rfl := of_decide_eq_true g1
      exact d_insat (okE a h g6 d.1) (okE i h g7 d.2.1) (okE b h g8 d.2.2) (attrB g2) g3 (nst_ne g4) (nst_ne g5)
    · cases g
  | .dic1 k v, c, e, pn, X, W, h, g, d => by
    simp only [chkE] at g
    split at g
    · simp only [Bool.and_eq_true] at g
      exact d_dic1 (okE k h g.1 d.1) (okE v h g.2 d.2)
    · cases g
  | .tidx _ _, c, e, pn, X, W, h, g, d => by simp only [chkE] at g; cases g
  | .callK _ _ _ _ _ _, c, e, pn, X, W, h, g, d => by simp only [chkE] at g; cases g
  | .lam _ _ _ _, c, e, pn, X, W, h, g, d => by simp only [chkE] at g; cases g
  | .act _ _, c, e, pn, X, W, h, g, d => by simp only [chkE] at g; cases g
  | .dmrg a b, c, e, pn, X, W, h, g, d => by
    simp only [chkE] at g
    split at g
    · simp only [Bool.and_eq_true] at g
      exact d_dmrg (okE a h g.1 d.1) (okE b h g.2 d.2)
    · cases g
  | .isiO a k, c, e, pn, X, W, h, g, d => by
    simp only [chkE] at g
    split at g
    · simp only [Bool.and_eq_true] at g
      obtain ⟨g1, g2, g3, g4, g5, g6, g7⟩ := g
      obtain rfl := of_decide_eq_true g1
      obtain rfl := of_decide_eq_true g3
      obtain ⟨⟨d1, d2, d3⟩, d4⟩ := d
      exact d_isiO (h.gl g2) (h.free (by decide)) (by rw [h.K]; exact d1) (by rw [h.K]; exact d2) (okE a h g7 d4) (cv := .ref (He.ga X.K _)) (pe_glob (h.gl g4) (by rw [h.mg, h.K]; exact d3) rfl (ndbF g5)) (fun u r => r) (star1 g6) rfl
    · cases g
theorem okO : ∀ (a : Po) {c : Cc} {o : Option Expr} {pn : List (Addr × Obj)} {X : Cx} {W : WX}, At en c pn X W → chkO a c o = true → GdO en a → PO X o (tP X.K pn W a)
  | .no, c, o, pn, X, W, h, g, d => by
    simp only [chkO] at g
    cases o with
    | none => exact dp_no
    | some _ => cases g
  | .at a, c, o, pn, X, W, h, g, d => by
    simp only [chkO] at g
    split at g
    · exact dp_at (okE a h g d)
    · cases g
theorem okA : ∀ (a : As) {c : Cc} {es : List Expr} {pn : List (Addr × Obj)} {X : Cx} {W : WX}, At en c pn X W → chkA a c es = true → GdA en a → PA X es (tAs X.K pn W a)
  | .nil, c, es, pn, X, W, h, g, d => by
    simp only [chkA] at g
    cases es with
    | nil => exact da_nil
    | cons _ _ => cases g
  | .cons a r, c, es, pn, X, W, h, g, d => by
    simp only [chkA] at g
    split at g
    · simp only [Bool.and_eq_true] at g
      exact da_cons (okE a h g.2.1 d.1) (okA r h g.2.2 d.2) (star1 g.1)
    · cases g
  | .ref a r, c, es, pn, X, W, h, g, d => by
    simp only [chkA] at g
    split at g
    · simp only [Bool.and_eq_true] at g
      exact da_ref (okE a h g.2.1 d.1) (okA r h g.2.2 d.2) (star1 g.1)
    · cases g
  | .star a r, c, es, pn, X, W, h, g, d => by
    simp only [chkA] at g
    split at g
    · simp only [Bool.and_eq_true] at g
      exact da_star (okE a h g.1 d.1) (okA r h g.2 d.2) rfl
    · cases g
theorem okT : ∀ (a : T) {c : Cc} {e : Expr} {pn : List (Addr × Obj)} {X : Cx} {W : WX}, At en c pn X W → chkT a c e = true → GdT en a → PT X e (tT X.K pn W a) ∧ (isBl e = true → PW X e (tT X.K pn W a))
  | .tt, c, e, pn, X, W, h, g, d => by
    simp only [chkT] at g
    cases g
  | .v a, c, e, pn, X, W, h, g, d => by
    simp only [chkT, Bool.and_eq_true] at g
    obtain ⟨g1, g2⟩ := g
    have pe := okE a h g1 d
    split at g2
    · refine ⟨?_, fun z => nomatch z⟩
      cases a <;> first | (cases g2; done) | skip
      · rename_i o x y
        simp only [chkE, Bool.and_eq_true, Bool.not_eq_true'] at g1
        obtain ⟨q1, q2, q3, q4⟩ := g1
        obtain rfl := of_decide_eq_true q1
        exact dt_cmp h.ct (okE x h q3 d.1) (okE y h q4 d.2) q2
      · rename_i o x y k S
        simp only [chkE, Bool.and_eq_true, Bool.not_eq_true'] at g1
        obtain ⟨q1, q2, q3, q4, q5⟩ := g1
        obtain ⟨d1, d2, d3⟩ := d
        obtain ⟨fa, j, M, hr, hb⟩ := d1.at_ h q1
        exact dt_owC (of_decide_eq_true q2) h.un M hb hr h.tk (okE x h q4 d2) (okE y h q5 d3) q3
    · refine ⟨?_, fun z => nomatch z⟩
      cases a <;> first | (cases g2; done) | skip
      rename_i o o' x y z
      simp only [chkE, Bool.and_eq_true, Bool.not_eq_true'] at g1
      obtain ⟨q1, q2, q3, q4, q5, q6, q7⟩ := g1
      obtain rfl := of_decide_eq_true q1
      obtain rfl := of_decide_eq_true q2
      exact dt_chn h.ct (okE x h q5 d.1) (okE y h q6 d.2.1) (okE z h q7 d.2.2) q3 q4
    · refine ⟨dt_val pe (trueV g2), fun z => ?_⟩
      unfold isBl at z
      split at z
      · cases g2
      · cases z
  | .and a b, c, e, pn, X, W, h, g, d => by
    simp only [chkT] at g
    split at g
    · simp only [Bool.and_eq_true] at g
      have pw := dt_and (okT a h g.1 d.1).1 ((okT b h g.2 d.2).2 rfl)
      exact ⟨pw.pt, fun _ => pw⟩
    · cases g
  | .or a b, c, e, pn, X, W, h, g, d => by
    simp only [chkT] at g
    split at g
    · simp only [Bool.and_eq_true] at g
      have pw := dt_or (okT a h g.1 d.1).1 ((okT b h g.2 d.2).2 rfl)
      exact ⟨pw.pt, fun _ => pw⟩
    · cases g
  | .one a, c, e, pn, X, W, h, g, d => by
    simp only [chkT] at g
    split at g
    · rename_i o l p
      cases o with
      | And => exact ⟨(dt_oneA (okT a h g d).1).pt, fun _ => dt_oneA (okT a h g d).1⟩
      | Or => exact ⟨(dt_oneO (okT a h g d).1).pt, fun _ => dt_oneO (okT a h g d).1⟩
    · cases g
  | .not a, c, e, pn, X, W, h, g, d => by
    simp only [chkT] at g
    split at g
    · exact ⟨dt_not (okT a h g d).1, fun z => nomatch z⟩
    · cases g
theorem okI : ∀ (a : It) {c : Cc} {tg e : Expr} {pn : List (Addr × Obj)} {X : Cx} {W : WX}, At en c pn X W → chkI a c tg e = true → GdI en a → PI X tg e (tI X.K pn W a)
  | .seq a, c, tg, e, pn, X, W, h, g, d => by
    simp only [chkI] at g
    exact di_seq (okE a h g d)
  | .rng a, c, tg, e, pn, X, W, h, g, d => by
    simp only [chkI] at g
    split at g
    · simp only [Bool.and_eq_true] at g
      obtain ⟨g1, g2, g3, g4⟩ := g
      obtain rfl := of_decide_eq_true g1
      exact di_rng (h.gl g2) (h.free (by decide)) (okE a h g4 d) (nst_ne g3)
    · cases g
  | .rng2 a b, c, tg, e, pn, X, W, h, g, d => by
    simp only [chkI] at g
    split at g
    · simp only [Bool.and_eq_true] at g
      obtain ⟨g1, g2, g3, g4, g5, g6⟩ := g
      obtain rfl := of_decide_eq_true g1
      exact di_rng2 (h.gl g2) (h.free (by decide)) (okE a h g5 d.1) (okE b h g6 d.2) (nst_ne g3) (nst_ne g4)
    · cases g
  | .enm a, c, tg, e, pn, X, W, h, g, d => by
    simp only [chkI] at g
    split at g
    · simp only [Bool.and_eq_true] at g
      obtain ⟨g1, g2, g3, g4⟩ := g
      obtain rfl := of_decide_eq_true g1
      exact di_enm (h.gl g2) (h.free (by decide)) (okE a h g4 d) (nst_ne g3)
    · cases g
  | .zip a b, c, tg, e, pn, X, W, h, g, d => by
    simp only [chkI] at g
    split at g
    · simp only [Bool.and_eq_true] at g
      obtain ⟨g1, g2, g3, g4, g5, g6⟩ := g
      obtain rfl := of_decide_eq_true g1
      exact di_zip (h.gl g2) (h.free (by decide)) (okE a h g5 d.1) (okE b h g6 d.2) (nst_ne g3) (nst_ne g4)
    · cases g
end
end
end DL

namespace DL
open PySem PySem.Spec PyProof.Rows L2

def Cc.hot (c : Cc) : Cc := ⟨c.N, c.sc, false, c.blk, false⟩
def isLc : Expr → Bool
  | .ListComp _ _ _ _ => true
  | .DictComp _ _ _ _ _ => true
  | _ => false
/-- name = [..] that is stored at once -/
def swB (c : Cc) (x : Str) (px : Pos) : Expr → Bool
  | .ListComp _ _ scope p => loc c x && (px.line == p.line && !(scope.names.any fun (n, k) => n == x && (k == .local || k == .cell)))
  | .DictComp _ _ _ scope p => loc c x && (px.line == p.line && !(scope.names.any fun (n, k) => n == x && (k == .local || k == .cell)))
  | _ => false
def E.isComp : E → Bool
  | .lc _ _ _ _ => true
  | .lcO _ _ _ _ => true
  | .dcO _ _ _ _ _ => true
  | _ => false
/-- a name that is no plain local -/
def offLoc (c : Cc) : Expr → Bool
  | .Name x _ => decide (c.sc.names.lookup x ≠ some .local)
  | _ => false
mutual
def chkL : S → Cc → List Stmt → Bool
  | .skip, _, b => b.isEmpty
  | .seq a r, c, b => match b with
    | st :: rest => chkS a c st && chkL r c rest
    | [] => false
  | .bad, _, _ => true
  | _, _, _ => false
def chkS : S → Cc → Stmt → Bool
  | .pas, _, st => match st with
    | .Pass _ => true
    | _ => false
  | .brk, _, st => match st with
    | .Break _ => true
    | _ => false
  | .cnt, _, st => match st with
    | .Continue _ => true
    | _ => false
  | .exp a, c, st => match st with
    | .Expr e _ => noComp e && chkE a c e
    | _ => false
  | .set i a, c, st => match st with
    | .Assign [.Name x px] e _ => sto c i x && (chkE a c e && (noComp e || (isLc e && (!swB c x px e || a.isComp))))
    | _ => false
  | .unp is a, c, st => match st with
    | .Assign [.Tuple ts _ _] e _ => c.calm && (tgL c is ts && ((notTup e || ts.any (offLoc c)) && chkE a c e))
    | _ => false
  | .par3 i j l a b d, c, st => match st with
    | .Assign [.Tuple [.Name x px, .Name y py, .Name z pz] _ _] (.Tuple [e, f, g] _ _) _ => c.calm && (decide (c.N[i]? = some x) && (decide (c.N[j]? = some y) && (decide (c.N[l]? = some z) && (decide (i ≠ j ∧ i ≠ l ∧ j ≠ l) && (decide (x ≠ y ∧ x ≠ z ∧ y ≠ z) && (loc c x && (loc c y && (loc c z && (py.line == px.line && (pz.line == px.line && (nst e && (nst f && (nst g && (!([e, f, g].all (foldedForSure 8)) && (!([e, f, g].all (constantsAlone 8)) && (chkE a c e && (chkE b c f && chkE d c g)))))))))))))))))
    | _ => false
  | .par i j a b, c, st => match st with
    | .Assign [.Tuple [.Name x px, .Name y py] _ _] (.Tuple [e, f] _ _) _ => c.calm && (decide (c.N[i]? = some x) && (decide (c.N[j]? = some y) && (decide (i ≠ j) && (decide (x ≠ y) && (loc c x && (loc c y && (py.line == px.line && (nst e && (nst f && (!([e, f].all (foldedForSure 8)) && (!([e, f].all (constantsAlone 8)) && (chkE a c e && chkE b c f))))))))))))
    | _ => false
  | .ret a, c, st => match st with
    | .Return (some e) _ => chkE a c e
    | _ => false
  | .retN, _, st => match st with
    | .Return none _ => true
    | _ => false
  | .ite t a b, c, st => match st with
    | .If e p q _ => chkT t c e && (chkL a c p && chkL b c q)
    | _ => false
  | .forr t it b, c, st => match st with
    | .For tg iter body [] _ => c.top && (c.calm && (notSet iter && (chkG c t tg && (chkI it c tg iter && chkL b c body))))
    | _ => false
  | .whl t b, c, st => match st with
    | .While e body [] _ => c.top && (chkT t c e && chkL b c body)
    | _ => false
  | .setix a k b, c, st => match st with
    | .Assign [.Subscript o i _] e _ => notSlice i && (chkE a c o && (chkE k c i && chkE b c e))
    | _ => false
  | .setfl a _ f b, c, st => match st with
    | .Assign [.Attribute o g _] e _ => decide (g = f) && (chkE a c o && chkE b c e)
    | _ => false
  | .rse k _ as, c, st => match st with
    | .Raise (some (.Call (.Name i _) (x :: xs) [] _)) none _ => c.calm && (decide (i = k) && (gl c i && (ndb i && (nst x && (xs.all nst && chkA as c (x :: xs))))))
    | _ => false
  | .rseK k, c, st => match st with
    | .Raise (some (.Call (.Name i _) [.Constant (.str _) _ _] [] _)) none _ => c.calm && (decide (i = k) && (gl c i && ndb i))
    | _ => false
  | .tryx b x _ i h, c, st => match st with
    | .Try body [.ExceptHandler (some (.Name y _)) (some n) (s0 :: ss) _] [] [] _ => c.calm && (c.top && (decide (y = x) && (gl c y && (ndb y && (decide (c.N[i]? = some n) && (loc c n && (chkL b c body && chkL h c.hot (s0 :: ss))))))))
    | _ => false
  | .bad, _, _ => true
  | .as2 a1 k1 a2 k2 e1 e2, c, st => match st with
    | .Assign [.Tuple [.Subscript o1 i1 _, .Subscript o2 i2 _] _ _] (.Tuple [x, y] _ _) _ => c.calm && (notSlice i1 && (notSlice i2 && (nst x && (nst y && (chkE a1 c o1 && (chkE k1 c i1 && (chkE a2 c o2 && (chkE k2 c i2 && (chkE e1 c x && chkE e2 c y)))))))))
    | _ => false
  | .try2 b x1 _ i1 h1 x2 _ i2 h2, c, st => match st with
    | .Try body [.ExceptHandler (some (.Name y1 _)) (some n1) (s1 :: ss1) _, .ExceptHandler (some (.Name y2 _)) (some n2) (s2 :: ss2) _] [] [] _ => c.calm && (c.top && (decide (y1 = x1) && (gl c y1 && (ndb y1 && (decide (c.N[i1]? = some n1) && (loc c n1 &&
      (decide (y2 = x2) && (gl c y2 && (ndb y2 && (decide (c.N[i2]? = some n2) && (loc c n2 && (chkL b c body && (chkL h1 c.hot (s1 :: ss1) && chkL h2 c.hot (s2 :: ss2))))))))))))))
    | _ => false
  | .skip, _, _ => false
  | .seq _ _, _, _ => false
end
theorem sw_no {e : Expr} {t : Option Expr} {l : Nat} {env : Env} (h : noComp e = true) : swapsWith e t l env = pure false := by
  cases e <;> first | rfl | (cases h; done)
theorem sw_at {e o : Expr} {f : Str} {p : Pos} {l : Nat} {env : Env} : swapsWith e (some (.Attribute o f p)) l env = pure false := by
  cases e <;> rfl
theorem sw_sub {e o i : Expr} {p : Pos} {l : Nat} {env : Env} : swapsWithSole [.Subscript o i p] e l env = pure false := by
  cases e <;> rfl
theorem sw_tup {e : Expr} {ts : List Expr} {k : Nat} {p : Pos} {l : Nat} {env : Env} : swapsWithSole [.Tuple ts k p] e l env = pure false := by
  cases e <;> rfl
theorem ss_sub {e o i : Expr} {p : Pos} {env : Env} : swappedStores [.Subscript o i p] e env = pure none := by
  cases e <;> rfl
theorem ss_tup {e : Expr} {ts : List Expr} {k : Nat} {p : Pos} {env : Env} (h : notTup e = true) : swappedStores [.Tuple ts k p] e env = pure none := by
  cases e <;> first | rfl | (cases h; done)
theorem ss_subs {o1 i1 o2 i2 e f : Expr} {p1 p2 pt pt2 : Pos} {kt k2 : Nat} {env : Env} (hk : env.scope.kind = .function) (h1 : nst e = true) (h2 : nst f = true) : swappedStores [.Tuple [.Subscript o1 i1 p1, .Subscript o2 i2 p2] kt pt] (.Tuple [e, f] k2 pt2) env = pure none := by
  have hb : env.blockKind = .function := by unfold Env.blockKind; rw [hk]; rfl
  have hs : ([e, f].any fun | .Starred .. => true | _ => false) = false := by
    simp only [List.any_cons, List.any_nil, Bool.or_false, Bool.or_eq_false_iff]
    constructor
    · split
      · cases h1
      · rfl
    · split
      · cases h2
      · rfl
  unfold swappedStores
  have e1 : (!(([.Subscript o1 i1 p1, .Subscript o2 i2 p2] : List Expr).length == 2 || ([.Subscript o1 i1 p1, .Subscript o2 i2 p2] : List Expr).length == 3) || ([e, f] : List Expr).length != ([.Subscript o1 i1 p1, .Subscript o2 i2 p2] : List Expr).length || env.blockKind != .function) = false := by rw [hb]; rfl
  simp only [pure_bind]
  rw [e1]
  simp only [Bool.false_eq_true, if_false]
  refine (if_neg (show ¬ _ from by rw [Bool.not_eq_true]; exact hs)).trans ?_
  rfl
theorem ss_three {x y z : Str} {px py pz pt pt2 : Pos} {kt k2 : Nat} {e f g : Expr} {env : Env} (hk : env.scope.kind = .function) (hx : env.scope.names.lookup x = some .local) (hy : env.scope.names.lookup y = some .local) (hz : env.scope.names.lookup z = some .local) (hn : x ≠ y ∧ x ≠ z ∧ y ≠ z) (hl : (py.line == px.line) = true) (hl2 : (pz.line == px.line) = true)
    (h1 : nst e = true) (h2 : nst f = true) (h2' : nst g = true) (h3 : [e, f, g].all (foldedForSure 8) = false) (h4 : [e, f, g].all (constantsAlone 8) = false) :
    swappedStores [.Tuple [.Name x px, .Name y py, .Name z pz] kt pt] (.Tuple [e, f, g] k2 pt2) env = pure (some [x, y, z]) := by
  have kx : env.kindOf x = some .local := hx
  have ky : env.kindOf y = some .local := hy
  have kz : env.kindOf z = some .local := hz
  have hb : env.blockKind = .function := by unfold Env.blockKind; rw [hk]; rfl
  have hs : ([e, f, g].any fun | .Starred .. => true | _ => false) = false := by
    simp only [List.any_cons, List.any_nil, Bool.or_false, Bool.or_eq_false_iff]
    refine ⟨?_, ?_, ?_⟩
    · split
      · cases h1
      · rfl
    · split
      · cases h2
      · rfl
    · split
      · cases h2'
      · rfl
  have n1 : (y == x) = false := by simpa using Ne.symm hn.1
  have n2 : (z == x) = false := by simpa using Ne.symm hn.2.1
  have n3 : (z == y) = false := by simpa using Ne.symm hn.2.2
  have hl' : py.line = px.line := beq_iff_eq.mp hl
  have hl2' : pz.line = px.line := beq_iff_eq.mp hl2
  have he : ([x, y, z] : List Str).eraseDups.length = 3 := by simp [List.eraseDups_cons, n1, n2, n3]
  have hf : (([.Name x px, .Name y py, .Name z pz] : List Expr).filterMap fun
      | .Name id pos => if (env.kindOf id == some .local && pos.line == px.line) = true then some id else none
      | _ => none) = [x, y, z] := by
    simp only [List.filterMap_cons, kx, ky, kz, hl', hl2', beq_self_eq_true, Bool.and_self, if_true, List.filterMap_nil]
  unfold swappedStores
  have e1 : (!(([.Name x px, .Name y py, .Name z pz] : List Expr).length == 2 || ([.Name x px, .Name y py, .Name z pz] : List Expr).length == 3) || ([e, f, g] : List Expr).length != ([.Name x px, .Name y py, .Name z pz] : List Expr).length || env.blockKind != .function) = false := by rw [hb]; rfl
  simp only [pure_bind]
  rw [e1]
  simp only [Bool.false_eq_true, if_false]
  refine (if_neg (show ¬ _ from by rw [Bool.not_eq_true]; exact hs)).trans ?_
  have hc : (([x, y, z] : List Str).length != 3 || ([x, y, z] : List Str).eraseDups.length != ([x, y, z] : List Str).length) = false := by rw [he]; rfl
  rw [← hf] at hc
  refine (if_neg (show ¬ _ from by rw [Bool.not_eq_true]; exact hc)).trans ?_
  rw [h3, h4]
  simp only [Bool.false_eq_true, if_false]
  exact congrArg (fun l => (pure (some l) : Sem (Option (List Str)))) hf
theorem fm_lt {α β : Type} {f : α → Option β} : ∀ {l : List α}, (∃ a ∈ l, f a = none) → (l.filterMap f).length < l.length
  | [], h => by obtain ⟨_, h, _⟩ := h; cases h
  | a :: l, h => by
    cases e : f a with
    | none =>
      rw [List.filterMap_cons_none e]
      exact Nat.lt_succ_of_le (List.length_filterMap_le _ _)
    | some b =>
      rw [List.filterMap_cons_some e]
      refine Nat.succ_lt_succ (fm_lt ?_)
      obtain ⟨z, hz, q⟩ := h
      rcases List.mem_cons.mp hz with rfl | hz
      · rw [e] at q; cases q
      · exact ⟨z, hz, q⟩
theorem ss_off {e : Expr} {ts : List Expr} {k : Nat} {p : Pos} {env : Env} (h : ∃ x q, Expr.Name x q ∈ ts ∧ env.kindOf x ≠ some .local) : swappedStores [.Tuple ts k p] e env = pure none := by
  obtain ⟨x, q, hm, hx⟩ := h
  cases n : notTup e with
  | true => exact ss_tup n
  | false =>
    cases e <;> first | (cases n; done) | skip
    rename_i vs k2 p2
    unfold swappedStores
    dsimp only
    split
    · rfl
    · split
      · rfl
      · have hlt := fm_lt (l := ts) (f := fun
          | .Name id pos => if (env.kindOf id == some .local && pos.line == (ts.head?.map (·.pos.line)).getD 0) = true then some id else none
          | _ => none) ⟨_, hm, by
            have : (env.kindOf x == some .local) = false := by simpa using hx
            simp [this]⟩
        rw [if_pos]
        rw [Bool.or_eq_true]
        exact .inl (bne_iff_ne.mpr (Nat.ne_of_lt hlt))
theorem ss_two {x y : Str} {px py pt pt2 : Pos} {kt k2 : Nat} {e f : Expr} {env : Env} (hk : env.scope.kind = .function) (hx : env.scope.names.lookup x = some .local) (hy : env.scope.names.lookup y = some .local) (hn : x ≠ y) (hl : (py.line == px.line) = true)
    (h1 : nst e = true) (h2 : nst f = true) (h3 : [e, f].all (foldedForSure 8) = false) (h4 : [e, f].all (constantsAlone 8) = false) :
    swappedStores [.Tuple [.Name x px, .Name y py] kt pt] (.Tuple [e, f] k2 pt2) env = pure (some [x, y]) := by
  have kx : env.kindOf x = some .local := hx
  have ky : env.kindOf y = some .local := hy
  have hb : env.blockKind = .function := by unfold Env.blockKind; rw [hk]; rfl
  have hs : ([e, f].any fun | .Starred .. => true | _ => false) = false := by
    simp only [List.any_cons, List.any_nil, Bool.or_false, Bool.or_eq_false_iff]
    constructor
    · split
      · cases h1
      · rfl
    · split
      · cases h2
      · rfl
  have hn' : (x == y) = false := by simpa using hn
  have hn2 : (y == x) = false := by simpa using Ne.symm hn
  have hl' : py.line = px.line := beq_iff_eq.mp hl
  have he : ([x, y] : List Str).eraseDups.length = 2 := by simp [List.eraseDups_cons, hn2]
  have hf : (([.Name x px, .Name y py] : List Expr).filterMap fun
      | .Name id pos => if (env.kindOf id == some .local && pos.line == px.line) = true then some id else none
      | _ => none) = [x, y] := by
    simp only [List.filterMap_cons, kx, ky, hl', beq_self_eq_true, Bool.and_self, if_true, List.filterMap_nil]
  unfold swappedStores
  have e1 : (!(([.Name x px, .Name y py] : List Expr).length == 2 || ([.Name x px, .Name y py] : List Expr).length == 3) || ([e, f] : List Expr).length != ([.Name x px, .Name y py] : List Expr).length || env.blockKind != .function) = false := by rw [hb]; rfl
  have e2 : ((([.Name x px, .Name y py] : List Expr).head?.map (·.pos.line)).getD 0) = px.line := rfl
  simp only [pure_bind]
  rw [e1]
  simp only [Bool.false_eq_true, if_false]
  refine (if_neg (show ¬ _ from by rw [Bool.not_eq_true]; exact hs)).trans ?_
  have hc : (([x, y] : List Str).length != 2 || ([x, y] : List Str).eraseDups.length != ([x, y] : List Str).length) = false := by rw [he]; rfl
  rw [← hf] at hc
  refine (if_neg (show ¬ _ from by rw [Bool.not_eq_true]; exact hc)).trans ?_
  rw [h3, h4]
  simp only [Bool.false_eq_true, if_false]
  exact congrArg (fun l => (pure (some l) : Sem (Option (List Str)))) hf
end DL

namespace DL
open PySem PySem.Spec PyProof.Rows L2

theorem sw_dc0 {kx vx : Expr} {gs : List Comprehension} {scope : Scope} {pos py : Pos} {y : Str} {l : Nat} {env : Env} {c : Cc} (hsc : env.scope = c.sc) (hk : env.scope.kind = .function) (h : swB c y py (.DictComp kx vx gs scope pos) = false) : swapsWith (.DictComp kx vx gs scope pos) (some (.Name y py)) l env = pure false := by
  have hb : env.blockKind = .function := by unfold Env.blockKind; rw [hk]; rfl
  unfold swapsWith
  have key : (env.blockKind == .function && env.kindOf y == some .local && py.line == pos.line && !(scope.names.any fun (n, k) => n == y && (k == .local || k == .cell))) = false := by
    unfold swB loc at h
    rw [hb]
    show ((true && (env.scope.names.lookup y == some .local)) && _ && _) = false
    rw [hsc]
    cases q1 : (c.sc.names.lookup y == some .local) with
    | false => rfl
    | true =>
      have q2 : c.sc.names.lookup y = some .local := beq_iff_eq.mp q1
      rw [q2] at h
      simpa using h
  exact congrArg (fun b => (pure b : Sem Bool)) key
theorem sw_lc {elt : Expr} {gs : List Comprehension} {scope : Scope} {pos py : Pos} {y : Str} {l : Nat} {env : Env} {c : Cc} (hsc : env.scope = c.sc) (hk : env.scope.kind = .function) (h : swB c y py (.ListComp elt gs scope pos) = false) : swapsWith (.ListComp elt gs scope pos) (some (.Name y py)) l env = pure false := by
  have hb : env.blockKind = .function := by unfold Env.blockKind; rw [hk]; rfl
  unfold swapsWith
  have key : (env.blockKind == .function && env.kindOf y == some .local && py.line == pos.line && !(scope.names.any fun (n, k) => n == y && (k == .local || k == .cell))) = false := by
    unfold swB loc at h
    rw [hb]
    show ((true && (env.scope.names.lookup y == some .local)) && _ && _) = false
    rw [hsc]
    cases q1 : (c.sc.names.lookup y == some .local) with
    | false => rfl
    | true =>
      have q2 : c.sc.names.lookup y = some .local := beq_iff_eq.mp q1
      rw [q2] at h
      simpa using h
  exact congrArg (fun b => (pure b : Sem Bool)) key
section
variable {en : En}
theorem At.tr {c : Cc} {X : Cx} {W : WX} (h : At en c [] X W) {W' : WX} {pn' : List (Addr × Obj)} {xe : Value → Shared → Prop} (tk : Takes (X.tr pn' xe) W') (ps : PassesOwn (model X.prog X.w) X.A X.env xe) : At en c [] (X.tr pn' xe) W' :=
  ⟨h.prog, h.w, h.K, h.mg, h.base, h.N, h.sc, h.nd, h.un, h.room, h.calm, tk, h.fn, fun _ => ps, h.stk, h.kind, (fun q hq => nomatch hq), fun _ => rfl, h.blt, h.gd⟩
theorem At.suite {c : Cc} {X : Cx} {W : WX} (h : At en c [] X W) (a : Addr) (oe : Obj) (pn' : List (Addr × Obj)) : At en c.hot [(a, oe)] (X.suite a ((a, oe) :: pn')) noX where
  prog := h.prog
  w := h.w
  K := h.K
  mg := h.mg
  base := h.base
  N := h.N
  sc := h.sc
  nd := h.nd
  un := h.un
  room := fun z => nomatch z
  calm := fun z => nomatch z
  tk := fun u s' x => by
    obtain ⟨_, _, _, _, _, _, _, _, _, _, _, _, _, _, _, _, w⟩ := x
    exact w.elim
  fn := h.fn
  pass := fun z => nomatch z
  stk := fun z => nomatch z
  kind := h.kind
  pns := fun q hq => by
    rcases List.mem_cons.mp hq with rfl | hq
    · exact List.mem_cons_self
    · cases hq
  pn0 := fun z => nomatch z
  blt := h.blt
  gd := h.gd
theorem ok_setLc {a : E} {i : Nat} {x : Str} {px pos : Pos} {e : Expr} {c : Cc} {X : Cx} {W : WX} (h : At en c [] X W) (g0 : sto c i x = true) (g1 : chkE a c e = true) (g2 : a.isComp = true) (g3 : swB c x px e = true) (d : GdE en a) : PS X (.Assign [.Name x px] e pos) (tS X.K [] W (.set i a)) := by
  have hi := (h.sto g0).1
  cases a with
  | lc el t it ifs =>
    simp only [chkE] at g1
    split at g1
    · rename_i y tg iter fs scope p
      simp only [Bool.and_eq_true] at g1
      obtain ⟨g1, q2, q3, g4, g5, g6, g7⟩ := g1
      have hb := blk_of q3
      have ha := fun s H C cl fp => h.comp g1 hb.kind s H C cl fp
      unfold swB at g3
      simp only [Bool.and_eq_true, Bool.not_eq_true'] at g3
      have hl : X.env.scope.names.lookup x = some .local := by rw [h.sc]; exact of_decide_eq_true g3.1
      refine (s_setLc (h.calm g1) h.nd hi hl (sw_true h.kind hl g3.2.1 g3.2.2) (okI it h g5 d.2.1) (by rw [h.N, h.sc]; exact hb) ownOf_map (fun s H C cl fp => okG (ha s H C cl fp) (h.calm g1) g4) (fun s H C cl fp => ?_) (fun s H C cl fp => okE el (ha s H C cl fp) g6 d.1) (setF q2)).1
      split at g7
      · cases ifs <;> first | (cases g7; done) | skip
        exact ⟨fun pins s σ H Q I ⟨F, α, ρ, μ, hd, sl, w⟩ => pts_nil.run pins s σ H Q I (w F α H .refl hd)⟩
      · exact pts_one (okT ifs (ha s H C cl fp) g7 d.2.2).1
      · cases g7
    · cases g1
  | lcO el t it ifs =>
    simp only [chkE] at g1
    split at g1
    · rename_i y tg iter fs scope p
      simp only [Bool.and_eq_true] at g1
      obtain ⟨g1, q2, q3, g4, g5, g6, g7⟩ := g1
      have hb := blk_of q3
      have ha := fun s H C cl fp => h.comp g1 hb.kind s H C cl fp
      unfold swB at g3
      simp only [Bool.and_eq_true, Bool.not_eq_true'] at g3
      have hl : X.env.scope.names.lookup x = some .local := by rw [h.sc]; exact of_decide_eq_true g3.1
      refine (s_setLc (h.calm g1) h.nd hi hl (sw_true h.kind hl g3.2.1 g3.2.2) (okI it h g5 d.2.1) (by rw [h.N, h.sc]; exact hb) ownOf_map (fun s H C cl fp => okG (ha s H C cl fp) (h.calm g1) g4) (fun s H C cl fp => ?_) (fun s H C cl fp => okE el (ha s H C cl fp) g6 d.1) (setF q2)).2
      split at g7
      · cases ifs <;> first | (cases g7; done) | skip
        exact ⟨fun pins s σ H Q I ⟨F, α, ρ, μ, hd, sl, w⟩ => pts_nil.run pins s σ H Q I (w F α H .refl hd)⟩
      · exact pts_one (okT ifs (ha s H C cl fp) g7 d.2.2).1
      · cases g7
    · cases g1
  | dcO ek ev t it ifs =>
    simp only [chkE] at g1
    split at g1
    · rename_i y z tg iter fs scope p
      simp only [Bool.and_eq_true] at g1
      obtain ⟨g1, q2, q3, g4, g5, g6, g6', g7⟩ := g1
      have hb := blk_of q3
      have ha := fun s H C cl fp => h.comp g1 hb.kind s H C cl fp
      unfold swB at g3
      simp only [Bool.and_eq_true, Bool.not_eq_true'] at g3
      have hl : X.env.scope.names.lookup x = some .local := by rw [h.sc]; exact of_decide_eq_true g3.1
      refine s_setDc hi hl (sw_dc h.kind hl g3.2.1 g3.2.2) (h.calm g1) h.nd (okI it h g5 d.2.2.1) (by rw [h.N, h.sc]; exact hb) ownOf_map (fun s H C cl fp => okG (ha s H C cl fp) (h.calm g1) g4) (fun s H C cl fp => ?_) (fun s H C cl fp => okE ek (ha s H C cl fp) g6 d.1) (fun s H C cl fp => okE ev (ha s H C cl fp) g6' d.2.1) (setF q2)
      split at g7
      · cases ifs <;> first | (cases g7; done) | skip
        exact ⟨fun pins s σ H Q I ⟨F, α, ρ, μ, hd, sl, w⟩ => pts_nil.run pins s σ H Q I (w F α H .refl hd)⟩
      · exact pts_one (okT ifs (ha s H C cl fp) g7 d.2.2.2).1
      · cases g7
    · cases g1
  | _ => cases g2
theorem swB_calm {a : E} {c : Cc} {x : Str} {px : Pos} {e : Expr} (g1 : chkE a c e = true) (g2 : a.isComp = true) : c.calm = true := by
  cases a <;> first | (cases g2; done) | skip
  all_goals
    simp only [chkE] at g1
    split at g1
    · simp only [Bool.and_eq_true] at g1
      exact g1.1
    · cases g1
mutual
theorem okL : ∀ (a : S) {c : Cc} {b : List Stmt} {pn : List (Addr × Obj)} {X : Cx} {W : WX}, At en c pn X W → chkL a c b = true → GdS en a → PSs X b (tS X.K pn W a)
  | .skip, c, b, pn, X, W, h, g, d => by
    simp only [chkL] at g
    cases b with
    | nil => exact s_skip
    | cons _ _ => cases g
  | .seq a r, c, b, pn, X, W, h, g, d => by
    simp only [chkL] at g
    split at g
    · simp only [Bool.and_eq_true] at g
      exact s_cons (okS a h g.1 d.1) (okL r h g.2 d.2)
    · cases g
  | .pas, _, _, _, _, _, _, g, _ => by simp only [chkL] at g; cases g
  | .brk, _, _, _, _, _, _, g, _ => by simp only [chkL] at g; cases g
  | .cnt, _, _, _, _, _, _, g, _ => by simp only [chkL] at g; cases g
  | .exp _, _, _, _, _, _, _, g, _ => by simp only [chkL] at g; cases g
  | .set _ _, _, _, _, _, _, _, g, _ => by simp only [chkL] at g; cases g
  | .unp _ _, _, _, _, _, _, _, g, _ => by simp only [chkL] at g; cases g
  | .par _ _ _ _, _, _, _, _, _, _, g, _ => by simp only [chkL] at g; cases g
  | .par3 _ _ _ _ _ _, _, _, _, _, _, _, g, _ => by simp only [chkL] at g; cases g
  | .ret _, _, _, _, _, _, _, g, _ => by simp only [chkL] at g; cases g
  | .retN, _, _, _, _, _, _, g, _ => by simp only [chkL] at g; cases g
  | .ite _ _ _, _, _, _, _, _, _, g, _ => by simp only [chkL] at g; cases g
  | .forr _ _ _, _, _, _, _, _, _, g, _ => by simp only [chkL] at g; cases g
  | .whl _ _, _, _, _, _, _, _, g, _ => by simp only [chkL] at g; cases g
  | .setix _ _ _, _, _, _, _, _, _, g, _ => by simp only [chkL] at g; cases g
  | .setfl _ _ _ _, _, _, _, _, _, _, g, _ => by simp only [chkL] at g; cases g
  | .rse _ _ _, _, _, _, _, _, _, g, _ => by simp only [chkL] at g; cases g
  | .rseK _, _, _, _, _, _, _, g, _ => by simp only [chkL] at g; cases g
  | .tryx _ _ _ _ _, _, _, _, _, _, _, g, _ => by simp only [chkL] at g; cases g
  | .bad, _, _, _, _, _, _, _, _ => ss_bad
  | .as2 _ _ _ _ _ _, _, _, _, _, _, _, g, _ => by simp only [chkL] at g; cases g
  | .try2 _ _ _ _ _ _ _ _ _, _, _, _, _, _, _, g, _ => by simp only [chkL] at g; cases g
theorem okS : ∀ (a : S) {c : Cc} {st : Stmt} {pn : List (Addr × Obj)} {X : Cx} {W : WX}, At en c pn X W → chkS a c st = true → GdS en a → PS X st (tS X.K pn W a)
  | .skip, _, _, _, _, _, _, g, _ => by simp only [chkS] at g; cases g
  | .seq _ _, _, _, _, _, _, _, g, _ => by simp only [chkS] at g; cases g
  | .pas, c, st, pn, X, W, h, g, d => by
    simp only [chkS] at g
    split at g
    · exact s_pass
    · cases g
  | .brk, c, st, pn, X, W, h, g, d => by
    simp only [chkS] at g
    split at g
    · exact s_brk
    · cases g
  | .cnt, c, st, pn, X, W, h, g, d => by
    simp only [chkS] at g
    split at g
    · exact s_cnt
    · cases g
  | .exp a, c, st, pn, X, W, h, g, d => by
    simp only [chkS] at g
    split at g
    · simp only [Bool.and_eq_true] at g
      exact s_exp (okE a h g.2 d) (sw_no g.1)
    · cases g
  | .set i a, c, st, pn, X, W, h, g, d => by
    simp only [chkS] at g
    split at g
    · rename_i x px e pos
      simp only [Bool.and_eq_true, Bool.or_eq_true, Bool.not_eq_true'] at g
      obtain ⟨g1, g2, g3⟩ := g
      obtain ⟨s1, s2, s3⟩ := h.sto g1
      rcases g3 with g3 | ⟨g3, g4⟩
      · exact s_set h.nd s1 s2 (okE a h g2 d) (sw_no g3) s3
      · cases q : swB c x px e with
        | false =>
          cases e <;> first | (cases g3; done) | skip
          · exact s_set h.nd s1 s2 (okE a h g2 d) (sw_lc h.sc h.kind q) s3
          · exact s_set h.nd s1 s2 (okE a h g2 d) (sw_dc0 h.sc h.kind q) s3
        | true =>
          have g5 : a.isComp = true := by
            rcases g4 with g4 | g4
            · rw [q] at g4; cases g4
            · exact g4
          obtain rfl := h.pn0 (swB_calm (x := x) (px := px) g2 g5)
          exact ok_setLc h g1 g2 g5 q d
    · cases g
  | .unp is a, c, st, pn, X, W, h, g, d => by
    simp only [chkS] at g
    split at g
    · simp only [Bool.and_eq_true] at g
      obtain ⟨g1, g2, g3, g4⟩ := g
      obtain ⟨r1, r2, r3⟩ := okGs h g2
      refine s_unp (okE a h g4 d) (PG.or (pg_tup (h.calm g1) r1 r2 r3) (pg_unl (h.calm g1) r1 r2 r3)) sw_tup ?_ rfl
      rw [Bool.or_eq_true] at g3
      rcases g3 with g3 | g3
      · exact ss_tup g3
      · obtain ⟨t, ht, g5⟩ := List.any_eq_true.mp g3
        cases t <;> first | (cases g5; done) | skip
        exact ss_off ⟨_, _, ht, by show X.env.scope.names.lookup _ ≠ _; rw [h.sc]; exact of_decide_eq_true g5⟩
    · cases g
  | .par3 i j l a b k, c, st, pn, X, W, h, g, d => by
    simp only [chkS] at g
    split at g
    · rename_i x px y py z pz _ _ e f k2 _ _ _
      simp only [Bool.and_eq_true, Bool.not_eq_true'] at g
      obtain ⟨g1, g2, g3, g3', g4, g5, g6, g7, g7', g8, g8', g9, g10, g10', g11, g12, g13, g14, g15⟩ := g
      have hx : X.env.scope.names.lookup x = some .local := by rw [h.sc]; exact of_decide_eq_true g6
      have hy : X.env.scope.names.lookup y = some .local := by rw [h.sc]; exact of_decide_eq_true g7
      have hz : X.env.scope.names.lookup z = some .local := by rw [h.sc]; exact of_decide_eq_true g7'
      obtain ⟨i1, i2, i3⟩ := of_decide_eq_true g4
      exact s_par3 (h.calm g1) h.nd (by rw [h.N]; exact of_decide_eq_true g2) (by rw [h.N]; exact of_decide_eq_true g3) (by rw [h.N]; exact of_decide_eq_true g3') i1 i2 i3 hx hy hz (okE a h g13 d.1) (okE b h g14 d.2.1) (okE k h g15 d.2.2) (nst_ne g9) (nst_ne g10) (nst_ne g10') (ss_three h.kind hx hy hz (of_decide_eq_true g5) g8 g8' g9 g10 g10' g11 g12)
    · cases g
  | .par i j a b, c, st, pn, X, W, h, g, d => by
    simp only [chkS] at g
    split at g
    · rename_i x px y py _ _ e f _ _ _
      simp only [Bool.and_eq_true, Bool.not_eq_true'] at g
      obtain ⟨g1, g2, g3, g4, g5, g6, g7, g8, g9, g10, g11, g12, g13, g14⟩ := g
      have hx : X.env.scope.names.lookup x = some .local := by rw [h.sc]; exact of_decide_eq_true g6
      have hy : X.env.scope.names.lookup y = some .local := by rw [h.sc]; exact of_decide_eq_true g7
      exact s_par (h.calm g1) h.nd (by rw [h.N]; exact of_decide_eq_true g2) (by rw [h.N]; exact of_decide_eq_true g3) (of_decide_eq_true g4) hx hy (okE a h g13 d.1) (okE b h g14 d.2) (nst_ne g9) (nst_ne g10) (ss_two h.kind hx hy (of_decide_eq_true g5) g8 g9 g10 g11 g12)
    · cases g
  | .ret a, c, st, pn, X, W, h, g, d => by
    simp only [chkS] at g
    split at g
    · exact s_ret (okE a h g d)
    · cases g
  | .retN, c, st, pn, X, W, h, g, d => by
    simp only [chkS] at g
    split at g
    · exact s_retN
    · cases g
  | .ite t a b, c, st, pn, X, W, h, g, d => by
    simp only [chkS] at g
    split at g
    · simp only [Bool.and_eq_true] at g
      exact s_ite (okT t h g.1 d.1).1 (okL a h g.2.1 d.2.1) (okL b h g.2.2 d.2.2)
    · cases g
  | .forr t it b, c, st, pn, X, W, h, g, d => by
    simp only [chkS] at g
    split at g
    · simp only [Bool.and_eq_true] at g
      obtain ⟨g1, g2, g3, g4, g5, g6⟩ := g
      exact s_for (h.pass g1) (h.calm g2) (okI it h g5 d.1) (okG h (h.calm g2) g4) (okL b h g6 d.2) (setF g3)
    · cases g
  | .whl t b, c, st, pn, X, W, h, g, d => by
    simp only [chkS] at g
    split at g
    · simp only [Bool.and_eq_true] at g
      exact s_whl (h.pass g.1) (okT t h g.2.1 d.1).1 (okL b h g.2.2 d.2)
    · cases g
  | .setix a k b, c, st, pn, X, W, h, g, d => by
    simp only [chkS] at g
    split at g
    · rename_i o i p e q
      simp only [Bool.and_eq_true] at g
      refine s_setix h.un (okE a h g.2.1 d.1) (okE k h g.2.2.1 d.2.1) (okE b h g.2.2.2 d.2.2) sw_sub ss_sub fun v => ?_
      have gi := g.1
      cases i <;> first | (cases gi; done) | rfl
    · cases g
  | .setfl a k f b, c, st, pn, X, W, h, g, d => by
    simp only [chkS] at g
    split at g
    · simp only [Bool.and_eq_true] at g
      obtain rfl := of_decide_eq_true g.1
      exact s_setfl (okE a h g.2.1 d.2.1) (okE b h g.2.2 d.2.2) (by rw [h.K]; exact d.1.1) (by rw [h.K]; exact d.1.2) sw_at
    · cases g
  | .rse k fs as, c, st, pn, X, W, h, g, d => by
    simp only [chkS] at g
    split at g
    · rename_i i p0 x xs p1 p2
      simp only [Bool.and_eq_true] at g
      obtain ⟨g1, g2, g3, g4, g5, g6, g7⟩ := g
      obtain rfl := of_decide_eq_true g2
      obtain ⟨⟨m, f, fI, rfl, T, G⟩, d2⟩ := d
      have pm := pmk_1 (X := X) (C := He.ga X.K i) (fI := fI) (f := f) (c := i) (k := en.k) (p := p0) (pos := p1) (by rw [h.prog, h.K]; exact T) (by rw [h.prog, h.K]; exact G) (h.free (by decide)) (by rw [h.mg, h.K]; exact m) (h.room g1).toRoom (okA as h g7 d2) (h.gl g3) (ndbF g4) (star1 g5) (stars0 g6)
      refine s_rse (h.calm g1) h.tk ?_
      intro pins s σ H Q I ⟨F, α, ρ, μ, hd, sl, w⟩
      refine pm pins s σ H Q I ⟨F, α, ρ, μ, hd, sl, wpA.imp as w (fun rs m z vs F' α' H' g h r => ?_) fun _ _ z => z⟩
      obtain ⟨z1, z2⟩ := z vs F' α' H' g h r
      match vs, z1 with
      | [v], _ => exact ⟨v, rfl, fun d hd => z2 d hd⟩
    · cases g
  | .rseK k, c, st, pn, X, W, h, g, d => by
    simp only [chkS] at g
    split at g
    · simp only [Bool.and_eq_true] at g
      obtain ⟨g1, g2, g3, g4⟩ := g
      obtain rfl := of_decide_eq_true g2
      obtain ⟨d1, d2, d3, d4, d5⟩ := d
      exact s_rseK (h.calm g1) h.tk (pmk_own PySem.F.excBase_ValueError (by rw [h.K]; exact d3) (by rw [h.mg, h.K]; exact d1) (by rw [h.K]; exact d2) (raises_own (by rw [h.K]; exact d4) (by rw [h.K]; exact d5)) (h.gl g3) (ndbF g4))
    · cases g
  | .tryx b x tab i hh, c, st, pn, X, W, h, g, d => by
    simp only [chkS] at g
    split at g
    · simp only [Bool.and_eq_true] at g
      obtain ⟨g1, g2, g3, g4, g5, g6, g7, g8, g9⟩ := g
      obtain rfl := of_decide_eq_true g3
      obtain rfl := h.pn0 g1
      obtain ⟨⟨cu, cv, ct⟩, db, dh⟩ := d
      obtain ⟨k1, k2⟩ := h.stk g2
      refine s_tryx k1 k2 h.nd (by rw [h.N]; exact of_decide_eq_true g6) (by show X.env.scope.names.lookup _ = _; rw [h.sc]; exact of_decide_eq_true g7) ⟨h.gl g4, ndbF g5, by rw [h.mg]; exact cv.1⟩ h.tk (by rw [h.K]; exact ct)
        (fun W' pn' xe tk ps => okL b (h.tr tk ps) g8 db) (fun a oe pn' => okL hh (h.suite a oe pn') g9 dh)
    · cases g
  | .bad, c, st, pn, X, W, h, g, d => s_bad
  | .as2 a1 k1 a2 k2 e1 e2, c, st, pn, X, W, h, g, d => by
    simp only [chkS] at g
    split at g
    · rename_i o1 i1 q1 o2 i2 q2 _ _ x y _ _ _
      simp only [Bool.and_eq_true] at g
      obtain ⟨g1, g2, g3, g4, g5, g6, g7, g8, g9, g10, g11⟩ := g
      refine s_as2 h.un (h.calm g1) (okE a1 h g6 d.1) (okE k1 h g7 d.2.1) (okE a2 h g8 d.2.2.1) (okE k2 h g9 d.2.2.2.1) (d_tup (da_cons (okE e1 h g10 d.2.2.2.2.1) (da_cons (okE e2 h g11 d.2.2.2.2.2) da_nil (star1 g5)) (star1 g4))) sw_tup (ss_subs h.kind g4 g5) (fun v => ?_) fun v => ?_
      · cases i1 <;> first | (cases g2; done) | rfl
      · cases i2 <;> first | (cases g3; done) | rfl
    · cases g
  | .try2 b x1 tab1 i1 h1 x2 tab2 i2 h2, c, st, pn, X, W, h, g, d => by
    simp only [chkS] at g
    split at g
    · simp only [Bool.and_eq_true] at g
      obtain ⟨g1, g2, g3, g4, g5, g6, g7, g8, g9, g10, g11, g12, g13, g14, g15⟩ := g
      obtain rfl := of_decide_eq_true g3
      obtain rfl := of_decide_eq_true g8
      obtain rfl := h.pn0 g1
      obtain ⟨⟨cu1, cv1, ct1⟩, ⟨cu2, cv2, ct2⟩, db, dh1, dh2⟩ := d
      obtain ⟨k1, k2⟩ := h.stk g2
      refine s_try2 k1 k2 h.nd (by rw [h.N]; exact of_decide_eq_true g6) (by show X.env.scope.names.lookup _ = _; rw [h.sc]; exact of_decide_eq_true g7) ⟨h.gl g4, ndbF g5, by rw [h.mg]; exact cv1.1⟩
        (by rw [h.N]; exact of_decide_eq_true g11) (by show X.env.scope.names.lookup _ = _; rw [h.sc]; exact of_decide_eq_true g12) ⟨h.gl g9, ndbF g10, by rw [h.mg]; exact cv2.1⟩ h.tk (by rw [h.K]; exact ct1) (by rw [h.K]; exact ct2)
        (fun W' pn' xe tk ps => okL b (h.tr tk ps) g13 db) (fun a oe pn' => okL h1 (h.suite a oe pn') g14 dh1) (fun a oe pn' => okL h2 (h.suite a oe pn') g15 dh2)
    · cases g
end
/-- the body of a def, from the holding -/
theorem body_ok {a : S} {N : List Str} {scope : Scope} {body : List Stmt} (nd : N.Nodup) (hk : scope.kind = .function) (hb : ∀ x ∈ bltNames, en.mg x = none) (g : chkL a ⟨N, scope, true, none, true⟩ body = true) (d : GdS en a) :
    BodyOk en.P en.w en.K en.mg en.base en.k N scope body a := by
  intro X W e1 e2 e3 e4 e5 e6 e7 e8 e9 e10 e11 e12 e13 e14
  exact okL a ⟨e1, e2, e3, e4, e5, e6, e7, by rw [e6]; exact nd, e12.units, fun _ => e12, fun _ => e8, e11, fun x _ => e9 x, fun _ => e10, fun _ => ⟨e13, e14⟩, by rw [e7]; exact hk, (fun q hq => nomatch hq), fun _ => rfl, hb, e12.gd⟩ g d
end
end DL

namespace DL
open PySem PySem.Spec PyProof.Rows L2

def argB (ps : List Str) : List Arg → Bool
  | [] => ps.isEmpty
  | a :: as => match ps with
    | p :: ps => decide (a.arg = p) && argB ps as
    | [] => false
theorem arg_of : ∀ {as : List Arg} {ps : List Str}, argB ps as = true → as.map (·.arg) = ps
  | [], [], _ => rfl
  | a :: as, p :: ps, h => by
    unfold argB at h
    rw [Bool.and_eq_true] at h
    rw [List.map_cons, arg_of h.2, of_decide_eq_true h.1]
def parB (ps : List Str) (pv : Option Str) : Arguments → Bool
  | ⟨[], as, none, [], _, none, _⟩ => argB ps as && pv.isNone
  | ⟨[], as, some v, [], _, none, _⟩ => argB ps as && decide (pv = some v.arg)
  | _ => false
theorem zip_look {β : Type} : ∀ {ps : List Str} {us : List β}, ps.Nodup → us.length = ps.length → ∀ n ∈ ps, ∃ u, (ps.zip us).lookup n = some u
  | p :: ps, u :: us, nd, hl, n, hn => by
    rw [List.zip_cons_cons, List.lookup_cons]
    cases q : n == p with
    | true => exact ⟨u, rfl⟩
    | false =>
      have hn' : n ∈ ps := by
        rcases List.mem_cons.mp hn with z | z
        · rw [z] at q; simp at q
        · exact z
      exact zip_look (List.nodup_cons.mp nd).2 (Nat.succ.inj hl) n hn'
  | [], _, _, _, n, hn => by cases hn
theorem fm_congr {α β : Type} {f g : α → Option β} : ∀ {l : List α}, (∀ n ∈ l, f n = g n) → l.filterMap f = l.filterMap g
  | [], _ => rfl
  | a :: l, h => by
    rw [List.filterMap_cons, List.filterMap_cons, h a List.mem_cons_self, fm_congr fun n hn => h n (List.mem_cons_of_mem _ hn)]
theorem zip_all {β : Type} : ∀ {ps : List Str} {us : List β}, ps.Nodup → us.length = ps.length → (ps.filterMap fun n => ((ps.zip us).lookup n).map (n, ·)) = ps.zip us
  | [], [], _, _ => rfl
  | p :: ps, u :: us, nd, hl => by
    obtain ⟨n1, n2⟩ := List.nodup_cons.mp nd
    rw [List.zip_cons_cons, List.filterMap_cons]
    have e1 : List.lookup p ((p, u) :: ps.zip us) = some u := by rw [List.lookup_cons]; simp
    rw [e1]
    show (p, u) :: _ = _
    congr 1
    refine (fm_congr fun n hn => ?_).trans (zip_all n2 (Nat.succ.inj hl))
    have : (n == p) = false := by
      cases q : n == p with
      | false => rfl
      | true => rw [beq_iff_eq.mp q] at hn; exact absurd hn n1
    rw [List.lookup_cons, this]
theorem filt_none {ps : List Str} {slots : List (Str × Value)} (h : ∀ n ∈ ps, ∃ u, slots.lookup n = some u) : (ps.filter fun n => (slots.lookup n).isNone) = [] := by
  rw [List.filter_eq_nil_iff]
  intro n hn
  obtain ⟨u, e⟩ := h n hn
  rw [e]; simp
section
variable {x qual : Str} {params : Arguments} {body : List Stmt} {scope : Scope} {kV doc pm cdv ct : Value} {an : Option Addr} {ps : List Str}
theorem bind_plain (h : parB ps none params = true) (nd : ps.Nodup) (us : List Value) (hl : us.length = ps.length) : bindArgs (PySem.W.fnOf x qual params body scope .none kV doc pm an cdv ct) ⟨us, []⟩ = pure (ps.zip us) := by
  unfold parB at h
  split at h
  · rename_i as kd df
    rw [Bool.and_eq_true] at h
    have ea := arg_of h.1
    have z1 := zip_look (us := us) nd hl
    have z2 := zip_all (us := us) nd hl
    unfold bindArgs
    simp [PySem.W.fnOf, ea, seqItems?, hl, filt_none z1, z2]
    rfl
  · rename_i as v kd df
    rw [Bool.and_eq_true] at h
    simp at h
  · cases h
theorem zip_app {β : Type} : ∀ {ps : List Str} {us rest : List β}, us.length = ps.length → ps.zip (us ++ rest) = ps.zip us
  | [], [], _, _ => rfl
  | p :: ps, u :: us, rest, hl => by rw [List.cons_append, List.zip_cons_cons, List.zip_cons_cons, zip_app (Nat.succ.inj hl)]
theorem bind_star {pv : Str} (h : parB ps (some pv) params = true) (nd : ps.Nodup) (us rest : List Value) (hl : us.length = ps.length) : bindArgs (PySem.W.fnOf x qual params body scope .none kV doc pm an cdv ct) ⟨us ++ rest, []⟩ = (newTuple rest >>= fun t => pure (ps.zip us ++ [(pv, t)])) := by
  unfold parB at h
  split at h
  · rename_i as kd df
    rw [Bool.and_eq_true] at h
    simp at h
  · rename_i as v kd df
    rw [Bool.and_eq_true] at h
    have ea := arg_of h.1
    obtain e2 := Option.some.inj (of_decide_eq_true h.2)
    have z0 := zip_app (rest := rest) hl
    have z1 := zip_look (us := us) nd hl
    have z2 := zip_all (us := us) nd hl
    have z3 : (us ++ rest).drop ps.length = rest := by rw [← hl, List.drop_left]
    unfold bindArgs
    simp [PySem.W.fnOf, ea, seqItems?, z0, filt_none z1, z2, z3, e2]
    rfl
  · cases h
end
/-- a def of plain parameters, from its text; own: its result is a thing of the store -/
theorem def_ok' {en : En} {x qual : Str} {params : Arguments} {body : List Stmt} {scope : Scope} {f : Addr} {fd : FuncData} {N ps : List Str} {Sp : Spc} {a : S} (own : Bool)
    (F : FunD en.K x qual params body scope [] [] f fd) (hp : parB ps none params = true) (hS : FnScope N ps scope) (hb : ∀ x ∈ bltNames, en.mg x = none) (len : ∀ rs μ Q X, Sp.run rs μ Q X → rs.length = ps.length)
    (g : chkL a ⟨N, scope, true, none, true⟩ body = true) (d : GdS en a)
    (wp : ∀ rs μ Q X, Sp.run rs μ Q X → wpS a (rs.map some ++ List.replicate (N.length - rs.length) none) μ (fin own μ.length Q X)) : FnR en.P en.w en.K en.mg en.base (CX en.P en.w) (en.k + 1) f (lift en.K Sp) := by
  refine def_ok F hS ?_ len (body_ok hS.nd hS.kind hb g d) wp
  obtain ⟨oc, od, dV, kV, doc, pm, an, cdv, ct, osl, rfl, lk, hcd, hD, hK⟩ := F.ex
  rcases hD with ⟨_, rfl⟩ | ⟨e, _⟩
  · have nd : ps.Nodup := by rw [← hS.pre]; exact hS.nd.sublist (List.take_sublist _ _)
    exact Binds.all fun us hl => bind_plain hp nd us hl
  · exact absurd rfl e
theorem RvRs.split {K : PySem.W.Frag} {pn : List (Addr × Obj)} {F : Hp} {α : Al} : ∀ {r1 r2 : List RV} {vs : List V}, RvRs K pn F α (r1 ++ r2) vs → ∃ v1 v2, vs = v1 ++ v2 ∧ RvRs K pn F α r1 v1 ∧ RvRs K pn F α r2 v2 ∧ v1.length = r1.length
  | [], r2, vs, h => ⟨[], vs, rfl, trivial, h, rfl⟩
  | r :: r1, r2, v :: vs, h => by
    obtain ⟨v1, v2, e, h1, h2, l⟩ := RvRs.split h.2
    exact ⟨v :: v1, v2, by rw [e]; rfl, ⟨h.1, h1⟩, h2, congrArg (· + 1) l⟩
/-- a def f(a, .., *v) -/
theorem def_star {en : En} {x qual : Str} {params : Arguments} {body : List Stmt} {scope : Scope} {f : Addr} {fd : FuncData} {N ps : List Str} {pv : Str} {Sp : Spc} {a : S} (own : Bool)
    (F : FunD en.K x qual params body scope [] [] f fd) (hp : parB ps (some pv) params = true) (hS : FnScope N (ps ++ [pv]) scope) (hb : ∀ x ∈ bltNames, en.mg x = none)
    (g : chkL a ⟨N, scope, true, none, true⟩ body = true) (d : GdS en a)
    (wp : ∀ rs μ Q X, Sp.run rs μ Q X → ∃ (ws : List RV) (ds : List D), rs = ws ++ ds.map RV.dat ∧ ws.length = ps.length ∧ ds.length ≤ 16777216 ∧ wpS a ((ws ++ [RV.dat (.tup ds)]).map some ++ List.replicate (N.length - (ps.length + 1)) none) μ (fin own μ.length Q X)) :
    FnR en.P en.w en.K en.mg en.base (CX en.P en.w) (en.k + 1) f (lift en.K Sp) := by
  have hB := body_ok hS.nd hS.kind hb g d
  obtain ⟨oc, od, dV, kV, doc, pm, an, cdv, ct, osl, rfl, lk, hcd, hD, hK⟩ := F.ex
  have eD : dV = .none := by
    rcases hD with ⟨_, e⟩ | ⟨e, _⟩
    · exact e
    · exact absurd rfl e
  subst eD
  have nd : ps.Nodup := by
    have z : (ps ++ [pv]).Nodup := by rw [← hS.pre]; exact hS.nd.sublist (List.take_sublist _ _)
    exact (List.nodup_append.mp z).1
  have FS := star_ok (CX := CX en.P en.w) (P := en.P) (w := en.w) (mg := en.mg) (base := en.base) (k := en.k) (N := N) (pv := pv)
    (sp := fun vs H Q E => ∃ F α μ rs Q' X', Hold en.K F H α μ ∧ RvRs en.K [] F α rs vs ∧ rs.length = ps.length + 1 ∧ wpS a (rs.map some ++ List.replicate (N.length - (ps.length + 1)) none) μ (fin own μ.length Q' X') ∧
      (∀ rv μ', Q' rv μ' → ∀ v F' α' H', Go F F' α α' → Hold en.K F' H' α' μ' → RvR en.K [] F' α' rv v → Q v H') ∧ (∀ ex μ', X' ex μ' → ∀ cls d F' α' H', Go F F' α α' → Hold en.K F' H' α' μ' → ExR en.K F' ex cls d → E cls d H'))
    lk hcd hS StX.cxUp (fun us rest hl => bind_star hp nd us rest hl) (fun A outer s H vs Q E hr h => ?_)
  · refine fun A outer s H us vs Q E hr e0 r h => FS A outer s H us vs Q E hr e0 r ?_
    obtain ⟨F0, α, μ, rs, hd, rv, h⟩ := h
    obtain ⟨ws, ds, rfl, hl, hz, w⟩ := wp _ _ _ _ h
    obtain ⟨v1, v2, rfl, r1, r2, l1⟩ := rv.split
    have rl : RL en.K F0 v2 ds := datsOf_rel (by clear w h rv r2; induction ds with | nil => rfl | cons d ds ih => exact congrArg (Option.map (d :: ·)) (ih (by simp at hz; omega))) r2
    refine ⟨v1, v2, rfl, l1.trans hl, by rw [line_eq, rl.length]; exact hz, fun p np => ?_⟩
    obtain ⟨h2, g2⟩ := hd.new (u := .tup v2) np fun _ _ z => nomatch z
    refine ⟨_, α, μ, ws ++ [RV.dat (.tup ds)], _, _, h2, (r1.mono g2).append ⟨(R.tup (SqT.of upd_same) (rl.mono g2.1) : R _ _ _ _), trivial⟩, by simp [hl], w, ?_, ?_⟩
    · exact fun rv μ' q v F' α' H' g h r => q v F' α' H' (g2.trans g) h r
    · exact fun ex μ' q c d F' α' H' g h r => q c d F' α' H' (g2.trans g) h r
  · obtain ⟨F0, α, μ, rs, Q', X', hd, rv, hl, w, hQ, hX⟩ := h
    refine ⟨_, hB (cxOf (CX en.P en.w) en.P en.w en.K en.mg en.base N qual scope f cdv A outer s H E) (fun cls d _ H => E cls d H) rfl rfl rfl rfl rfl rfl rfl rfl (fun _ => rfl) (passes_of rfl) (takes_of rfl rfl rfl rfl) hr rfl rfl, ?_⟩
    have sl := slots_start (N := N) rv
    rw [hl] at sl
    refine ⟨F0, α, _, μ, hd, sl, wpS.imp a w ?_⟩
    refine ⟨fun ρ' μ' q F' α' H' σ' g h' sl => ?_, fun rv μ' q v F' α' H' g h' r => ?_, fun _ _ q => q.elim, fun _ _ q => q.elim, fun e ρ' μ' q cls d F' α' H' σ' g h' sl r => ?_⟩
    · exact fin_ok (rv := .dat .non) (v := .non) hd.len g h' R.non hQ q
    · exact fin_ok hd.len g h' r hQ q
    · exact hX _ _ q cls d F' _ H' (go_take g hd.len) h'.take r
/-- a class called, by what its __init__ does -/
def mkS (own : Bool) (c : Str) (Si : Spc) : Spc where
  run := fun rs μ Q X => Si.run (.loc μ.length :: rs) (μ ++ [.ins c []]) (fun rv μ' => rv = .dat .non ∧ finQ own μ.length Q (.loc μ.length) μ') (fun e μ' => X e (μ'.take μ.length))
  mono := fun rs μ Q Q' X X' h f g => Si.mono _ _ _ _ _ _ h (fun r m q => ⟨q.1, by
      have q2 := q.2
      revert q2
      unfold finQ
      cases own with
      | false => exact fun q2 => opt.imp q2 fun p q => f _ _ q
      | true => exact fun q2 => opt.imp q2 fun p q => ⟨q.1, f _ _ q.2⟩⟩) fun e m q => g _ _ q
theorem mk_ok {P : Program} {w : World} {K : PySem.W.Frag} {mg : Str → Option Value} {base : Heap} {k : Nat} {c : Str} {f : Addr} {Si : Spc} (own : Bool) (M : Mk K (He.ga K c) f) (F : FnR P w K mg base (CX P w) k f (lift K Si)) :
    CallOk P w K mg base (k + 1) (He.ga K c) (lift K (mkS own c Si)) := by
  intro X W e1 e2 e3 e4 e5 hr tk pins s σ H us vs Q I r h
  subst e1 e2 e3 e4 e5
  obtain ⟨F0, α, μ, rs, hd, rv, h⟩ := h
  have h : Si.run (.loc μ.length :: rs) (μ ++ [.ins c []]) _ _ := h
  have nx : H (s.heap.objs.size + 1) = none := I.hok.fresh (Nat.le_succ _)
  have nd : H s.heap.objs.size = none := I.hok.fresh (Nat.le_refl _)
  have ne : s.heap.objs.size ≠ s.heap.objs.size + 1 := Nat.ne_of_lt (Nat.lt_succ_self _)
  have I2 := Inv.made (C := He.ga X.K c) I
  have r2 : Vals (V.ref (s.heap.objs.size + 1) :: vs) (Value.ref (s.heap.objs.size + 1) :: us) := .cons rfl r
  have h2 := (hd.add (u := .own (s.heap.objs.size + 1)) nd).add (p := s.heap.objs.size + 1) (u := .ins (He.ga X.K c) s.heap.objs.size []) (by rw [upd_ne (Ne.symm ne)]; exact nx)
  have xa : s.heap.objs.size + 1 ∉ α.as := fun z => hd.al _ z nx
  have xh : α.hid (s.heap.objs.size + 1) = none := by
    cases q : α.hid (s.heap.objs.size + 1) with
    | none => rfl
    | some ws => have z := (hd.hd _ _ q).1; rw [nx] at z; cases z
  obtain ⟨h3, g3⟩ := h2.own (p := s.heap.objs.size + 1) (o := .ins c []) (by rw [upd_same]; exact fun z => nomatch z) xa xh ⟨hd.fr _ nx, s.heap.objs.size, [], upd_same, by rw [upd_ne ne, upd_same], hd.fr _ nd, .nil⟩
  have get : (α.as ++ [s.heap.objs.size + 1])[μ.length]? = some (s.heap.objs.size + 1) := by
    rw [← hd.len, List.getElem?_append_right (Nat.le_refl _)]; simp
  have hq : lift X.K Si (V.ref (s.heap.objs.size + 1) :: vs) (upd (upd H s.heap.objs.size (.own (s.heap.objs.size + 1))) (s.heap.objs.size + 1) (.ins (He.ga X.K c) s.heap.objs.size [])) (fun v H2 => v = .non ∧ Q (.ref (s.heap.objs.size + 1)) H2) (fun cls d H' => W cls d σ H') := by
    refine ⟨F0, _, μ ++ [.ins c []], .loc μ.length :: rs, h3, ⟨⟨_, get, rfl⟩, rv.mono g3⟩, Si.mono _ _ _ _ _ _ h (fun rv μ' q v F' α2 H2 g hh r => ?_) fun e μ' q cls d F' α2 H2 g hh r => ?_⟩
    · obtain ⟨rfl, q⟩ := q
      cases r
      refine ⟨rfl, fin_ok (rv := .loc μ.length) (v := .ref (s.heap.objs.size + 1)) hd.len (g3.trans g) hh ⟨_, g.get get, rfl⟩ (fun _ _ z => z) q⟩
    · exact q cls d F' _ H2 (go_take (g3.trans g) hd.len) hh.take r
  refine wpAny_call (make_map (f := f) I.kIn M.makes M.init (beq_iff_eq.mp M.fn) (codeAny_mono (F _ X.stack _ _ (Value.ref (s.heap.objs.size + 1) :: us) _ _ _ (hr.make (He.ga X.K c) us []) (I2.env0.make (He.ga X.K c) us []) r2 hq) fun r s' hq' => ?_))
  cases r with
  | error e => exact tk e s' (XE.of_call I2 (fun _ _ _ h => h) hq')
  | ok fl =>
    cases fl with
    | ret u =>
      obtain ⟨v, H', I3, rv, ev, q3⟩ := I2.after hq'
      subst ev
      exact ⟨rv, ⟨V.ref (s.heap.objs.size + 1), H', I3, rfl, q3⟩⟩
    | next => exact False.elim hq'
    | brk => exact False.elim hq'
    | cont => exact False.elim hq'
end DL

namespace DL
open PySem PySem.Spec PyProof.Rows L2

section
variable {μ : Mu} {d e : D} {l : Nat} {i j : Int} {xs ys : List D} {b : Bool} {x y : Str} {ds : List D} {c f : Str} {fs : List (Str × D)}
@[simp] theorem vw_dat : vw μ (.dat d) = some d := rfl
@[simp] theorem vw_loc : vw μ (.loc l) = μ[l]?.bind O.toD := rfl
@[simp] theorem toD_lst : O.toD (.lst xs) = some (.lst xs) := rfl
@[simp] theorem toD_frz : O.toD (.frz d) = some d := rfl
@[simp] theorem toD_ins : O.toD (.ins c fs) = some (.obj c fs) := rfl
@[simp] theorem fz_dat : fz μ (.dat d) = some (d, μ) := rfl
@[simp] theorem fz_loc : fz μ (.loc l) = (μ[l]?.bind O.toD).map fun d => (d, μ.set l (.frz d)) := rfl
@[simp] theorem ok_dat : RV.ok (.dat d) = true := rfl
@[simp] theorem ok_loc : RV.ok (.loc l) = true := rfl
@[simp] theorem vws_nil : vws μ [] = some [] := rfl
@[simp] theorem vws_cons {r : RV} {rs : List RV} : vws μ (r :: rs) = (vw μ r).bind fun d => (vws μ rs).map (d :: ·) := rfl
@[simp] theorem datsOf_nil : datsOf [] = some [] := rfl
@[simp] theorem datsOf_cons {rs : List RV} : datsOf (.dat d :: rs) = (datsOf rs).map (d :: ·) := rfl
@[simp] theorem ixD_lst : ixD (.lst xs) (.int i) = atI xs i := rfl
@[simp] theorem ixD_tup : ixD (.tup xs) (.int i) = atI xs i := rfl
theorem atI_nat {n : Nat} (h : xs[n]? = some d) : atI xs (n : Int) = some d := by
  have hl := (List.getElem?_eq_some_iff.mp h).1
  unfold atI ixN
  rw [if_pos (Int.natCast_nonneg n), if_pos (by omega)]
  exact h
@[simp] theorem atI_0 : atI (d :: xs) 0 = some d := atI_nat (n := 0) rfl
@[simp] theorem atI_1 : atI (d :: e :: xs) 1 = some e := atI_nat (n := 1) rfl
@[simp] theorem atI_2 {u : D} : atI (d :: e :: u :: xs) 2 = some u := atI_nat (n := 2) rfl
@[simp] theorem atI_3 {u v : D} : atI (d :: e :: u :: v :: xs) 3 = some v := atI_nat (n := 3) rfl
@[simp] theorem add_int : binD .add (.int i) (.int j) = some (.int (i + j)) := rfl
@[simp] theorem sub_int : binD .sub (.int i) (.int j) = some (.int (i - j)) := rfl
@[simp] theorem mul_int (h : -(2 ^ 64) < j ∧ j < 2 ^ 64) : binD .mul (.int i) (.int j) = some (.int (i * j)) := by show ite _ _ _ = _; rw [if_pos (.inr h)]
@[simp] theorem fdiv_int (h : 0 < j ∧ j < 1073741824) : binD .fdiv (.int i) (.int j) = some (.int (i / j)) := by show ite _ _ _ = _; rw [if_pos h]
@[simp] theorem mod_int (h : 0 < j) : binD .mod (.int i) (.int j) = some (.int (i % j)) := by show ite _ _ _ = _; rw [if_pos h]
@[simp] theorem pow_10_18 : binD .pow (.int 10) (.int 18) = some (.int 1000000000000000000) := by rfl
@[simp] theorem add_str (h : x.length + y.length ≤ 16777216) : binD .add (.str x) (.str y) = some (.str (x ++ y)) := by show ite _ _ _ = _; rw [if_pos h]
@[simp] theorem mul_str (h : 0 ≤ j ∧ j ≤ 1000 ∧ x.length ≤ 1000) : binD .mul (.str x) (.int j) = some (.str (Txt.mul x j)) := by show ite _ _ _ = _; rw [if_pos h]
@[simp] theorem add_lst (h : xs.length + ys.length ≤ 16777216) : binD .add (.lst xs) (.lst ys) = some (.lst (xs ++ ys)) := by show ite _ _ _ = _; rw [if_pos h]
@[simp] theorem lt_int : cmpD .lt (.int i) (.int j) = some (decide (i < j)) := rfl
@[simp] theorem le_int : cmpD .le (.int i) (.int j) = some (decide (i ≤ j)) := rfl
@[simp] theorem gt_int : cmpD .gt (.int i) (.int j) = some (decide (j < i)) := rfl
@[simp] theorem ge_int : cmpD .ge (.int i) (.int j) = some (decide (j ≤ i)) := rfl
@[simp] theorem cmp_eq : cmpD .eq d e = eqD d e := by cases d <;> rfl
@[simp] theorem cmp_ne : cmpD .ne d e = (eqD d e).map (!·) := by cases d <;> rfl
@[simp] theorem cmp_isN : cmpD .isN d .non = some (isNon d) := by cases d <;> rfl
@[simp] theorem cmp_notN : cmpD .notN d .non = some (!isNon d) := by cases d <;> rfl
@[simp] theorem isNon_non : isNon .non = true := rfl
@[simp] theorem isNon_int : isNon (.int i) = false := rfl
@[simp] theorem isNon_str : isNon (.str x) = false := rfl
@[simp] theorem inn_lst : cmpD .inn d (.lst ds) = inD d ds := by cases d <;> rfl
@[simp] theorem inn_tup : cmpD .inn d (.tup ds) = inD d ds := by cases d <;> rfl
@[simp] theorem nin_lst : cmpD .nin d (.lst ds) = (inD d ds).map (!·) := by cases d <;> rfl
@[simp] theorem nin_tup : cmpD .nin d (.tup ds) = (inD d ds).map (!·) := by cases d <;> rfl
@[simp] theorem tru_bl : truD (.bl b) = some b := rfl
@[simp] theorem tru_int : truD (.int i) = some (i != 0) := rfl
@[simp] theorem tru_lst : truD (.lst xs) = some (!xs.isEmpty) := rfl
@[simp] theorem tru_tup : truD (.tup xs) = some (!xs.isEmpty) := rfl
@[simp] theorem tru_non : truD .non = some false := rfl
@[simp] theorem biL_list : biL .list [.lst xs] = some xs := rfl
@[simp] theorem biL_listT : biL .list [.tup xs] = some xs := rfl
theorem biL_no {g : Bi} (h : g ≠ .list) (h2 : g ≠ .sorted) : biL g ds = none := by
  unfold biL
  split
  · exact absurd rfl h
  · exact absurd rfl h
  · exact absurd rfl h
  · exact absurd rfl h2
  · rfl
@[simp] theorem biL_sorted : biL .sorted [.lst xs] = (strsD xs).map fun ss => (sortS ss).map D.str := rfl
@[simp] theorem biL_len : biL .len ds = none := biL_no (fun z => nomatch z) fun z => nomatch z
@[simp] theorem biL_all : biL .all ds = none := biL_no (fun z => nomatch z) fun z => nomatch z
@[simp] theorem biL_any : biL .any ds = none := biL_no (fun z => nomatch z) fun z => nomatch z
@[simp] theorem biL_int : biL .int ds = none := biL_no (fun z => nomatch z) fun z => nomatch z
@[simp] theorem biL_str : biL .str ds = none := biL_no (fun z => nomatch z) fun z => nomatch z
@[simp] theorem biL_tuple : biL .tuple ds = none := biL_no (fun z => nomatch z) fun z => nomatch z
@[simp] theorem biL_sum : biL .sum ds = none := biL_no (fun z => nomatch z) fun z => nomatch z
@[simp] theorem bi_lenL : biD .len [.lst xs] = some (.int xs.length) := rfl
@[simp] theorem bi_lenT : biD .len [.tup xs] = some (.int xs.length) := rfl
@[simp] theorem bi_lenS (h : x.length ≤ 16777216) : biD .len [.str x] = some (.int x.length) := by show ite _ _ _ = _; rw [if_pos h]
@[simp] theorem bi_all : biD .all [.lst xs] = (blsD xs).map fun bs => .bl (bs.all id) := rfl
@[simp] theorem bi_any : biD .any [.lst xs] = (blsD xs).map fun bs => .bl (bs.any id) := rfl
@[simp] theorem bi_int : biD .int [.int i] = some (.int i) := rfl
@[simp] theorem bi_str : biD .str [.str x] = some (.str x) := rfl
@[simp] theorem bi_tupL : biD .tuple [.lst xs] = some (.tup xs) := rfl
@[simp] theorem bi_tupT : biD .tuple [.tup xs] = some (.tup xs) := rfl
@[simp] theorem toD_dic {kvs : List (Key × D)} : O.toD (.dic kvs) = some (.dic kvs) := rfl
@[simp] theorem keyOf_str : keyOf (.str x) = some (.inr x) := rfl
@[simp] theorem keyOf_int : keyOf (.int i) = some (.inl i) := rfl
@[simp] theorem ixD_dic {kvs : List (Key × D)} : ixD (.dic kvs) d = (keyOf d).bind (lk kvs) := by cases d <;> rfl
@[simp] theorem inn_dic {kvs : List (Key × D)} : cmpD .inn d (.dic kvs) = (keyOf d).map fun k => (lk kvs k).isSome := by cases d <;> rfl
@[simp] theorem nin_dic {kvs : List (Key × D)} : cmpD .nin d (.dic kvs) = (keyOf d).map fun k => !(lk kvs k).isSome := by cases d <;> rfl
@[simp] theorem is_bl {c : Bool} : cmpD .isN (.bl c) (.bl b) = some (decide (c = b)) := rfl
@[simp] theorem not_bl {c : Bool} : cmpD .notN (.bl c) (.bl b) = some (!decide (c = b)) := rfl
@[simp] theorem isNon_bl : isNon (.bl b) = false := rfl
@[simp] theorem isNon_tup : isNon (.tup xs) = false := rfl
@[simp] theorem isNon_lst : isNon (.lst xs) = false := rfl
@[simp] theorem seq_dic {kvs : List (Key × D)} (h : kvs.length ≤ 16777216) : seqD (.dic kvs) = some (kvs.map fun kv => keyD kv.1) := if_pos h
@[simp] theorem putIx_loc {kd : D} {P : Mu → Prop} : putIx (.loc l) (.dat kd) d μ P = opt (μ[l]?) fun o => match o with
    | .lst xs => (match kd with
      | .int i => opt (ixN xs.length i) fun j => P (μ.set l (.lst (xs.set j d)))
      | _ => False)
    | .dic kvs => opt (keyOf kd) fun k => kvs.length < 16777216 ∧ P (μ.set l (.dic (pk kvs k d)))
    | _ => False := rfl
@[simp] theorem ixN_1 : ixN 4 1 = some 1 := rfl
@[simp] theorem ixN_2 : ixN 4 2 = some 2 := rfl
@[simp] theorem ixN_3 : ixN 4 3 = some 3 := rfl
end
section
variable {own : Bool} {n : Nat} {Q : QV} {X : QX} {rv : RV} {μ : Mu} {ρ : Rho} {e : Ex} {d : D}
@[simp] theorem fin_nx : (fin own n Q X).nx ρ μ = finQ own n Q (.dat .non) μ := rfl
@[simp] theorem fin_rt : (fin own n Q X).rt rv μ = finQ own n Q rv μ := rfl
@[simp] theorem fin_ex : (fin own n Q X).ex e ρ μ = X e (μ.take n) := rfl
@[simp] theorem finQ_dat : finQ false n Q (.dat d) μ = Q (.dat d) (μ.take n) := rfl
end
end DL

namespace DL
open PySem PySem.Spec PyProof.Rows L2

/-- the source of a law: its cells, the place, the big number, the seed -/
def src (cs : List Int) (i b s : Int) : O := .lst [.lst (cs.map .int), .int i, .int b, .int s]
def Src (o : O) : Prop := ∃ cs i b s, o = src cs i b s ∧ cs.length ≤ 63 ∧ 0 ≤ i ∧ 0 ≤ b ∧ 0 ≤ s ∧ s < 2147483647
def S_law_draw : Spc where
  run := fun rs μ Q _ => ∃ l n o, rs = [.loc l, .dat (.int n)] ∧ μ[l]? = some o ∧ Src o ∧ 0 < n ∧ n < 1000000 ∧ ∀ r o', 0 ≤ r → r < n → Src o' → Q (.dat (.int r)) (μ.set l o')
  mono := fun rs μ Q Q' X X' ⟨l, n, o, h1, h2, h3, h4, h5, h6⟩ f g => ⟨l, n, o, h1, h2, h3, h4, h5, fun r o' a b c => f _ _ (h6 r o' a b c)⟩
def N_law_draw : List Str := ["_law_source", "_law_limit", "_law_cell", "_law_digit"]
def A_law_draw : S :=
    (.seq (.ite (.and (.v (.cmp .lt (.ix (.var 0) (.cst (.int 2))) (.bin .pow (.cst (.int 10)) (.cst (.int 18))))) (.one (.v (.cmp .lt (.ix (.var 0) (.cst (.int 1))) (.bi .len (.ref (.ix (.var 0) (.cst (.int 0))) .nil)))))) (.seq (.set 2 (.bi .int (.ref (.ix (.ix (.var 0) (.cst (.int 0))) (.ix (.var 0) (.cst (.int 1)))) .nil)))
    (.seq (.setix (.var 0) (.cst (.int 1)) (.bin .add (.ix (.var 0) (.cst (.int 1))) (.cst (.int 1))))
    (.seq (.setix (.var 0) (.cst (.int 2)) (.cst (.int 0)))
    (.seq (.ite (.v (.cmp .ge (.var 2) (.bin .pow (.cst (.int 10)) (.cst (.int 18))))) (.seq (.setix (.var 0) (.cst (.int 2)) (.var 2))
    .skip)
    .skip)
    (.seq (.setix (.var 0) (.cst (.int 3)) (.bin .mod (.bi .int (.ref (.bin .add (.bin .add (.bin .mul (.ix (.var 0) (.cst (.int 3))) (.cst (.int 48271))) (.bin .mod (.var 2) (.cst (.int 2147483629)))) (.cst (.int 11))) .nil)) (.cst (.int 2147483647))))
    .skip)))))
    .skip)
    (.seq (.ite (.v (.cmp .ge (.ix (.var 0) (.cst (.int 2))) (.bin .pow (.cst (.int 10)) (.cst (.int 18))))) (.seq (.set 3 (.bin .mod (.bi .int (.ref (.ix (.var 0) (.cst (.int 2))) .nil)) (.var 1)))
    (.seq (.setix (.var 0) (.cst (.int 2)) (.bin .fdiv (.ix (.var 0) (.cst (.int 2))) (.var 1)))
    (.seq (.ret (.var 3))
    .skip)))
    .skip)
    (.seq (.setix (.var 0) (.cst (.int 3)) (.bin .mod (.bi .int (.ref (.bin .add (.bin .mul (.ix (.var 0) (.cst (.int 3))) (.cst (.int 39373))) (.cst (.int 12820163))) .nil)) (.cst (.int 2147483647))))
    (.seq (.ret (.bin .mod (.bi .int (.ref (.bin .fdiv (.ix (.var 0) (.cst (.int 3))) (.cst (.int 16))) .nil)) (.var 1)))
    .skip))))
theorem w_law_draw : ∀ rs μ Q X, S_law_draw.run rs μ Q X → wpS A_law_draw (rs.map some ++ List.replicate (N_law_draw.length - rs.length) none) μ (fin false μ.length Q X) := by
  rintro rs μ Q X ⟨l, n, o, rfl, hl, ⟨cs, i, b, s, rfl, h0, h1, h2, h3, h4⟩, hn, hn2, hQ⟩
  have hlt : l < μ.length := (List.getElem?_eq_some_iff.mp hl).1
  have hg : ∀ o : O, (μ.set l o)[l]? = some o := fun o => by rw [List.getElem?_set_self hlt]
  have ht : ∀ o : O, (μ.set l o).take μ.length = μ.set l o := fun o => by rw [List.take_of_length_le (by simp)]
  have hn3 : n < 1073741824 := by omega
  unfold src at hl
  have key : ∀ i' b' s' r : Int, 0 ≤ i' → 0 ≤ b' → 0 ≤ s' → s' < 2147483647 → 0 ≤ r → r < n → Q (.dat (.int r)) (List.take (List.length μ) (List.set μ l (.lst [.lst (cs.map .int), .int i', .int b', .int s']))) :=
    fun i' b' s' r a1 a2 a3 a4 a5 a6 => by rw [ht]; exact hQ r _ a5 a6 ⟨cs, i', b', s', rfl, h0, a1, a2, a3, a4⟩
  have m0 : ∀ x : Int, 0 ≤ x % n := fun x => Int.emod_nonneg x (by omega)
  have m1 : ∀ x : Int, x % n < n := fun x => Int.emod_lt_of_pos x hn
  have k0 : ∀ x : Int, 0 ≤ x % 2147483647 := fun x => Int.emod_nonneg x (by omega)
  have k1 : ∀ x : Int, x % 2147483647 < 2147483647 := fun x => Int.emod_lt_of_pos x (by omega)
  unfold A_law_draw
  by_cases hc : i < cs.length
  · obtain ⟨c, ec⟩ : ∃ c, atI (cs.map D.int) i = some (.int c) := by
      obtain ⟨m, rfl⟩ := Int.eq_ofNat_of_zero_le h1
      have hm : m < cs.length := by omega
      exact ⟨cs[m], atI_nat (by rw [List.getElem?_map, List.getElem?_eq_getElem hm]; rfl)⟩
    simp [↓wpS, ↓wpT, ↓wpE, ↓wpA, ↓opt, N_law_draw, hl, hg, List.set_set, hn, hn3, hc, ec]
    repeat' split
    all_goals first
      | (refine key _ _ _ _ ?_ ?_ ?_ ?_ ?_ ?_ <;> first | omega | exact m0 _ | exact m1 _ | exact k0 _ | exact k1 _ | exact Int.ediv_nonneg (by omega) (by omega))
      | omega
  · simp [↓wpS, ↓wpT, ↓wpE, ↓wpA, ↓opt, N_law_draw, hl, hg, List.set_set, hn, hn3, hc]
    repeat' split
    all_goals first
      | (refine key _ _ _ _ ?_ ?_ ?_ ?_ ?_ ?_ <;> first | omega | exact m0 _ | exact m1 _ | exact k0 _ | exact k1 _ | exact Int.ediv_nonneg (by omega) (by omega))
      | omega
end DL

namespace DL
open PySem PySem.Spec PyProof.Rows L2

/-- a list's, a tuple's, a text's items -/
def seqX : D → Option (List D)
  | .dic _ => none
  | d => seqD d
theorem seq_len {d : D} {xs : List D} (h : seqX d = some xs) : biD .len [d] = some (.int xs.length) := by
  cases d <;> simp only [seqX, seqD] at h <;> first | (cases h; done) | skip
  · rename_i z
    split at h
    · rename_i hz
      cases h
      rw [bi_lenS hz]
      simp [Str.length]
    · cases h
  · cases h; rfl
  · cases h; rfl
theorem seq_ix {d x : D} {xs : List D} {r : Nat} (h : seqX d = some xs) (hr : xs[r]? = some x) : ixD d (.int r) = some x := by
  cases d <;> simp only [seqX, seqD] at h <;> first | (cases h; done) | skip
  · rename_i z
    split at h
    · rename_i hz
      cases h
      rw [List.getElem?_map] at hr
      obtain ⟨c, e1, e2⟩ := Option.map_eq_some_iff.mp hr
      have hl := (List.getElem?_eq_some_iff.mp e1).1
      show (if z.length ≤ 16777216 then atI z.cps.toList (r : Int) else none).map chD = some x
      rw [if_pos hz]
      have : atI z.cps.toList (r : Int) = some c := by
        unfold atI ixN
        rw [if_pos (Int.natCast_nonneg r), if_pos (by omega)]
        exact e1
      rw [this]
      exact congrArg some e2
    · cases h
  · cases h; exact atI_nat hr
  · cases h; exact atI_nat hr
def S_law_pick : Spc where
  run := fun rs μ Q _ => ∃ l d xs o, rs = [.loc l, .dat d] ∧ μ[l]? = some o ∧ Src o ∧ seqX d = some xs ∧ xs ≠ [] ∧ xs.length < 1000000 ∧ ∀ x o', x ∈ xs → Src o' → Q (.dat x) (μ.set l o')
  mono := fun rs μ Q Q' X X' ⟨l, d, xs, o, h1, h2, h3, h4, h5, h6, h7⟩ f g => ⟨l, d, xs, o, h1, h2, h3, h4, h5, h6, fun x o' a b => f _ _ (h7 x o' a b)⟩
def N_law_pick : List Str := ["_law_source", "_law_items"]
def A_law_pick : S :=
    (.seq (.ret (.ix (.var 1) (.call "_law_draw" S_law_draw (.ref (.var 0) (.cons (.bi .len (.ref (.var 1) .nil)) .nil)))))
    .skip)
theorem take_set {μ : Mu} {l : Nat} {o : O} : (μ.set l o).take μ.length = μ.set l o := by rw [List.take_of_length_le (by simp)]
theorem w_law_pick : ∀ rs μ Q X, S_law_pick.run rs μ Q X → wpS A_law_pick (rs.map some ++ List.replicate (N_law_pick.length - rs.length) none) μ (fin false μ.length Q X) := by
  rintro rs μ Q X ⟨l, d, xs, o, rfl, hl, hs, hd, hx, hz, hQ⟩
  have hp : 0 < xs.length := List.length_pos_iff.mpr hx
  unfold A_law_pick
  simp [↓wpS, ↓wpT, ↓wpE, ↓wpA, ↓opt, N_law_pick, seq_len hd]
  refine ⟨l, _, o, rfl, hl, hs, by omega, by omega, fun r o' h1 h2 h3 => ?_⟩
  obtain ⟨m, rfl⟩ := Int.eq_ofNat_of_zero_le h1
  have hm : m < xs.length := by omega
  have e := seq_ix hd (List.getElem?_eq_getElem hm)
  simp [e, take_set]
  exact hQ _ _ (List.getElem_mem hm) h3
def S_law_begin : Spc where
  run := fun rs μ Q _ => ∃ cs : List Int, rs = [.dat (.lst (cs.map .int))] ∧ ∀ o, Src o → Q (.loc μ.length) (μ ++ [o])
  mono := fun rs μ Q Q' X X' ⟨cs, h1, h2⟩ f g => ⟨cs, h1, fun o h => f _ _ (h2 o h)⟩
def N_law_begin : List Str := ["_law_script"]
def A_law_begin : S :=
    (.seq (.ret (.lstO (.cons (.bi .list (.ref (.sl (.var 0) .no (.at (.cst (.int 63)))) .nil)) (.cons (.cst (.int 0)) (.cons (.cst (.int 0)) (.cons (.cst (.int 7)) .nil))))))
    .skip)
theorem cut_to {xs : List D} {n : Nat} : cutD xs none (some (n : Int)) = xs.take n := by
  unfold cutD
  rw [HT.sIx_none, HT.sIx_nat, List.drop_zero, Nat.sub_zero]
  rw [← List.take_take, List.take_length]
@[simp] theorem finQ_new {μ : Mu} {o : O} {Q : QV} : finQ true μ.length Q (.loc μ.length) (μ ++ [o]) = Q (.loc μ.length) (μ ++ [o]) := by
  show opt ((μ ++ [o])[μ.length]?) _ = _
  rw [List.getElem?_append_right (Nat.le_refl _)]
  simp [opt]
theorem w_law_begin : ∀ rs μ Q X, S_law_begin.run rs μ Q X → wpS A_law_begin (rs.map some ++ List.replicate (N_law_begin.length - rs.length) none) μ (fin true μ.length Q X) := by
  rintro rs μ Q X ⟨cs, rfl, hQ⟩
  unfold A_law_begin
  have e : cutD (cs.map D.int) none (some 63) = (cs.take 63).map D.int := by rw [List.map_take]; exact cut_to (n := 63)
  simp [↓wpS, ↓wpT, ↓wpE, ↓wpA, ↓wpO, ↓opt, N_law_begin, e]
  exact hQ _ ⟨cs.take 63, 0, 0, 7, by unfold src; rw [List.map_take], by simp; omega, by omega, by omega, by omega, by omega⟩
section
variable {ν : Mu} {n l : Nat} {a b c : O}
theorem ap0 (h : ν.length = n) : (ν ++ [a, b])[n]? = some a := by rw [← h, List.getElem?_append_right (Nat.le_refl _)]; simp
theorem ap1 (h : ν.length = n) : (ν ++ [a, b])[n + 1]? = some b := by rw [← h, List.getElem?_append_right (Nat.le_succ _)]; simp
theorem apl (h : l < ν.length) : (ν ++ [a, b])[l]? = ν[l]? := List.getElem?_append_left h
theorem as0 (h : ν.length = n) : (ν ++ [a, b]).set n c = ν ++ [c, b] := by rw [← h, List.set_append_right _ _ (Nat.le_refl _)]; simp
theorem as1 (h : ν.length = n) : (ν ++ [a, b]).set (n + 1) c = ν ++ [a, c] := by rw [← h, List.set_append_right _ _ (Nat.le_succ _)]; simp
theorem tk2 (h : ν.length = n) : (ν ++ [a, b]).take n = ν := by rw [← h, List.take_left]
theorem asl (h : l < ν.length) : (ν ++ [a, b]).set l c = ν.set l c ++ [a, b] := List.set_append_left _ _ h
end
/-- what == can be asked of -/
def gd (x : D) : Prop := ∃ p, toPy x = some p ∧ p.canLay0 = true ∧ p.depth ≤ 62
theorem gds : ∀ {xs : List D}, (∀ x ∈ xs, gd x) → ∃ ps, toPys xs = some ps ∧ PyData.canLayAll0 ps = true ∧ PyData.depthAll ps ≤ 62 ∧ ps.length = xs.length
  | [], _ => ⟨[], rfl, rfl, Nat.zero_le _, rfl⟩
  | x :: xs, h => by
    obtain ⟨p, e1, e2, e3⟩ := h x List.mem_cons_self
    obtain ⟨ps, f1, f2, f3, f4⟩ := gds fun y hy => h y (List.mem_cons_of_mem _ hy)
    refine ⟨p :: ps, by simp only [toPys, e1, f1, Option.bind_some, Option.map_some], by simp only [PyData.canLayAll0, e2, f2, Bool.and_self], by simp only [PyData.depthAll]; omega, by simp [f4]⟩
theorem shL {ps : List PyData} (h : PyData.canLayAll0 ps = true) (d : PyData.depthAll ps ≤ 62) : SeqAt.shaped (.list ps) = true := by
  show (PyData.canLay0 (.list ps) && decide (PyData.depth (.list ps) ≤ 64)) = true
  rw [Bool.and_eq_true]
  exact ⟨by simp only [PyData.canLay0]; exact h, decide_eq_true (by simp only [PyData.depth]; omega)⟩
theorem eqD_lst {xs ys : List D} {ps qs : List PyData} (h1 : toPys xs = some ps) (h2 : toPys ys = some qs) (s1 : SeqAt.shaped (.list ps) = true) (s2 : SeqAt.shaped (.list qs) = true) : eqD (.lst xs) (.lst ys) = some (PyData.eqv (.list ps) (.list qs)) := by
  have e1 : toPy (.lst xs) = some (.list ps) := by simp [toPy, h1]
  have e2 : toPy (.lst ys) = some (.list qs) := by simp [toPy, h2]
  show (toPy (.lst xs)).bind (fun p => (toPy (.lst ys)).bind fun q => eqP p q) = _
  rw [e1, e2]
  simp [eqP, s1, s2]
theorem eqD_nil {xs : List D} (h : ∀ x ∈ xs, gd x) : eqD (.lst xs) (.lst []) = some xs.isEmpty := by
  obtain ⟨ps, f1, f2, f3, f4⟩ := gds h
  rw [eqD_lst f1 rfl (shL f2 f3) (shL rfl (Nat.zero_le _))]
  cases xs with
  | nil => cases ps with
    | nil => rfl
    | cons _ _ => cases f4
  | cons _ _ => cases ps with
    | nil => cases f4
    | cons _ _ => rfl
theorem perm_erase {α : Type} : ∀ {xs : List α} {k : Nat} (h : k < xs.length), (xs[k] :: xs.eraseIdx k).Perm xs
  | x :: xs, 0, _ => .refl _
  | x :: xs, k + 1, h => by
    have h' : k < xs.length := by simpa using h
    show (xs[k] :: x :: xs.eraseIdx k).Perm (x :: xs)
    exact (List.Perm.swap _ _ _).trans ((perm_erase h').cons x)
/-- small letters -/
def low (z : Str) : Prop := ∀ c ∈ z.cps.toList, 97 ≤ c ∧ c ≤ 122
def StemOk (z : Str) : Prop := z.length ≤ 5 ∧ low z
def S_law_mixed : Spc where
  run := fun rs μ Q _ => ∃ l xs o, rs = [.loc l, .dat (.lst xs)] ∧ μ[l]? = some o ∧ Src o ∧ xs.length < 1000000 ∧ (∀ x ∈ xs, gd x) ∧ ∀ ys o', ys.Perm xs → Src o' → Q (.dat (.lst ys)) (μ.set l o')
  mono := fun rs μ Q Q' X X' ⟨l, xs, o, h1, h2, h3, h4, h4', h5⟩ f g => ⟨l, xs, o, h1, h2, h3, h4, h4', fun x o' a b => f _ _ (h5 x o' a b)⟩
def N_law_mixed : List Str := ["_law_source", "_law_items", "_law_left", "_law_found"]
def B_law_mixed_0 : S :=
    (.seq (.exp (.app (.var 3) (.popat (.var 2) (.call "_law_draw" S_law_draw (.ref (.var 0) (.cons (.bi .len (.ref (.var 2) .nil)) .nil))))))
    .skip)
def A_law_mixed : S :=
    (.seq (.par 2 3 (.listO (.ref (.var 1) .nil)) (.lstO .nil))
    (.seq (.whl (.v (.cmp .ne (.var 2) (.lst .nil))) B_law_mixed_0)
    (.seq (.ret (.var 3))
    .skip)))
theorem w_law_mixed : ∀ rs μ Q X, S_law_mixed.run rs μ Q X → wpS A_law_mixed (rs.map some ++ List.replicate (N_law_mixed.length - rs.length) none) μ (fin false μ.length Q X) := by
  rintro rs μ Q X ⟨l, xs, o, rfl, hl, hs, hz, hgd, hQ⟩
  have hlt : l < μ.length := (List.getElem?_eq_some_iff.mp hl).1
  unfold A_law_mixed B_law_mixed_0
  simp [↓wpS, ↓wpT, ↓wpE, ↓wpA, ↓opt, N_law_mixed]
  refine ⟨fun m ρ' μ' => ∃ o' lf fd, m = lf.length ∧ ρ' = [some (.loc l), some (.dat (.lst xs)), some (.loc μ.length), some (.loc (μ.length + 1))] ∧ μ' = μ.set l o' ++ [.lst lf, .lst fd] ∧ Src o' ∧ (fd ++ lf).Perm xs, ⟨xs.length, o, xs, [], rfl, rfl, ?_, hs, .refl _⟩, ?_⟩
  · have : μ.set l o = μ := by
      obtain ⟨q1, q2⟩ := List.getElem?_eq_some_iff.mp hl
      rw [← q2, List.set_getElem_self]
    rw [this]
  rintro m ρ' μ' ⟨o', lf, fd, rfl, rfl, rfl, ho, hp⟩
  have hll : (μ.set l o').length = μ.length := List.length_set ..
  have hgl : ∀ x ∈ lf, gd x := fun x hx => hgd x (hp.subset (List.mem_append_right _ hx))
  have hlen : fd.length + lf.length = xs.length := by rw [← List.length_append]; exact hp.length_eq
  simp [ap0 hll, ap1 hll, eqD_nil hgl]
  cases lf with
  | nil =>
    simp
    show opt (fz _ _) _
    simp [ap1 hll, as1 hll, opt, tk2 hll]
    exact hQ _ _ (by simpa using hp) ho
  | cons y lf =>
    simp
    refine ⟨l, _, o', rfl, by rw [apl (by simp [hlt]), List.getElem?_set_self hlt], ho, by simp, by simp at hlen ⊢; omega, fun r o2 h1 h2 h3 => ?_⟩
    obtain ⟨k, rfl⟩ := Int.eq_ofNat_of_zero_le h1
    have hk : k < (y :: lf).length := by simp at h2 ⊢; omega
    have hl2 : (μ.set l o2).length = μ.length := List.length_set ..
    have hsm : small (k : Int) = true := by unfold small; simp at hlen hk; exact decide_eq_true (by omega)
    have e1 : (y :: lf)[k]? = some ((y :: lf)[k]) := List.getElem?_eq_getElem hk
    rw [asl (by simp [hlt]), List.set_set]
    simp only [ap0 hl2, hsm, Int.toNat_natCast, e1, as0 hl2, ap1 hl2, as1 hl2]
    simp
    have pe : ((y :: lf)[k] :: (y :: lf).eraseIdx k).Perm (y :: lf) := perm_erase hk
    refine ⟨by simp at hlen; omega, _, ?_, o2, _, rfl, _, rfl, h3, ?_⟩
    · rw [List.length_eraseIdx_of_lt hk]; simp
    · refine List.Perm.trans ?_ hp
      rw [List.append_assoc]
      exact List.Perm.append_left fd pe
theorem abc_seq : seqD (.str "abcdefghijklmnopqrstuvwxyz") = some ((List.range 26).map fun i => chD (97 + i)) := rfl
theorem abc_mem {x : D} (h : x ∈ (List.range 26).map fun i => chD (97 + i)) : ∃ c, (97 ≤ c ∧ c ≤ 122) ∧ x = chD c := by
  obtain ⟨i, hi, rfl⟩ := List.mem_map.mp h
  have := List.mem_range.mp hi
  exact ⟨97 + i, ⟨by omega, by omega⟩, rfl⟩
theorem mul_ch (c : Nat) {r : Int} (h1 : 0 ≤ r) (h2 : r < 4) : ∃ k, k ≤ 3 ∧ Txt.mul ⟨#[c]⟩ r = ⟨(List.replicate k c).toArray⟩ := by
  have : r = 0 ∨ r = 1 ∨ r = 2 ∨ r = 3 := by omega
  rcases this with rfl | rfl | rfl | rfl
  · exact ⟨0, by omega, rfl⟩
  · exact ⟨1, by omega, rfl⟩
  · exact ⟨2, by omega, rfl⟩
  · exact ⟨3, by omega, rfl⟩
theorem len_app {x y : Str} : (x ++ y).length = x.length + y.length := by
  show (x.cps ++ y.cps).size = _
  rw [Array.size_append]
  rfl
theorem low_app {x y : Str} (h : low x) (h' : low y) : low (x ++ y) := by
  intro c hc
  have hc : c ∈ (x.cps ++ y.cps).toList := hc
  rw [Array.toList_append] at hc
  rcases List.mem_append.mp hc with z | z
  · exact h c z
  · exact h' c z
def S_law_stem : Spc where
  run := fun rs μ Q _ => ∃ l o, rs = [.loc l] ∧ μ[l]? = some o ∧ Src o ∧ ∀ z o', StemOk z → Src o' → Q (.dat (.str z)) (μ.set l o')
  mono := fun rs μ Q Q' X X' ⟨l, o, h1, h2, h3, h4⟩ f g => ⟨l, o, h1, h2, h3, fun x o' a b => f _ _ (h4 x o' a b)⟩
def N_law_stem : List Str := ["_law_source", "_law_letters"]
def A_law_stem : S :=
    (.seq (.set 1 (.cst (.str "abcdefghijklmnopqrstuvwxyz")))
    (.seq (.ret (.bin .add (.bin .mul (.call "_law_pick" S_law_pick (.ref (.var 0) (.cons (.var 1) .nil))) (.call "_law_draw" S_law_draw (.ref (.var 0) (.cons (.cst (.int 4)) .nil)))) (.call "_law_pick" S_law_pick (.ref (.var 0) (.cons (.lst (.cons (.cst (.str "")) (.cons (.cst (.str "q")) (.cons (.cst (.str "xy")) .nil)))) .nil)))))
    .skip))
theorem w_law_stem : ∀ rs μ Q X, S_law_stem.run rs μ Q X → wpS A_law_stem (rs.map some ++ List.replicate (N_law_stem.length - rs.length) none) μ (fin false μ.length Q X) := by
  rintro rs μ Q X ⟨l, o, rfl, hl, hs, hQ⟩
  have hlt : l < μ.length := (List.getElem?_eq_some_iff.mp hl).1
  have hg : ∀ o : O, (μ.set l o)[l]? = some o := fun o => by rw [List.getElem?_set_self hlt]
  unfold A_law_stem
  simp [↓wpS, ↓wpT, ↓wpE, ↓wpA, ↓opt, N_law_stem]
  refine ⟨l, _, _, o, rfl, hl, hs, abc_seq, by simp, by simp, fun x o1 hx h1 => ?_⟩
  obtain ⟨c, hc, rfl⟩ := abc_mem hx
  refine ⟨l, _, o1, rfl, hg _, h1, by omega, by omega, fun r o2 r1 r2 h2 => ?_⟩
  obtain ⟨k, hk, ek⟩ := mul_ch c r1 r2
  have e1 : binD .mul (chD c) (.int r) = some (.str ⟨(List.replicate k c).toArray⟩) := by
    rw [chD, mul_str ⟨r1, by omega, by show 1 ≤ 1000; omega⟩, ek]
  simp only [List.set_set, vw_dat, e1]
  refine ⟨l, _, _, o2, rfl, hg _, h2, rfl, by simp, by simp, fun y o3 hy h3 => ?_⟩
  have fin : ∀ t : Str, t.length ≤ 2 → low t → Q (.dat (.str (⟨(List.replicate k c).toArray⟩ ++ t))) (List.set μ l o3) := fun t ht lt => by
    refine hQ _ _ ⟨?_, ?_⟩ h3
    · rw [len_app]
      have : Str.length ⟨(List.replicate k c).toArray⟩ = k := by simp [Str.length]
      omega
    · refine low_app ?_ lt
      intro b hb
      have hb : b ∈ List.replicate k c := by simpa using hb
      rw [List.eq_of_mem_replicate hb]
      exact hc
  have len : ∀ t : Str, t.length ≤ 2 → Str.length ⟨(List.replicate k c).toArray⟩ + t.length ≤ 16777216 := fun t ht => by
    have : Str.length ⟨(List.replicate k c).toArray⟩ = k := by simp [Str.length]
    omega
  simp at hy
  rcases hy with rfl | rfl | rfl
  all_goals
    simp only [List.set_set, vw_dat]
    rw [add_str (len _ (by decide))]
    show Q _ (List.take _ _)
    rw [take_set]
    exact fin _ (by decide) (by intro b hb; revert b; decide)
end DL

namespace DL
open PySem PySem.Spec PyProof.Rows L2

theorem compL_pure {tg : D → Rho → Option Rho} {ts : Rho → Mu → QB → Prop} {el : Rho → Mu → QV → Prop} {ρ : Rho} {μ : Mu} {p : D → Bool} {f : D → D} :
    ∀ {ds : List D} {Q : QD}, (∀ d ∈ ds, ∃ ρ', tg d ρ = some ρ' ∧ (∀ Q : QB, Q (p d) μ → ts ρ' μ Q) ∧ (p d = true → ∀ Q : QV, Q (.dat (f d)) μ → el ρ' μ Q)) → Q ((ds.filter p).map f) μ → compL tg ts el ρ ds μ Q
  | [], Q, _, q => q
  | d :: ds, Q, h, q => by
    obtain ⟨ρ', e, h1, h2⟩ := h d List.mem_cons_self
    have ih := fun {Q : QD} => compL_pure (ds := ds) (Q := Q) fun y hy => h y (List.mem_cons_of_mem _ hy)
    show opt (tg d ρ) _
    rw [e]
    refine h1 _ ?_
    cases z : p d with
    | true =>
      rw [if_pos rfl]
      refine h2 z _ ?_
      show opt (some (f d, μ)) _
      refine ih ?_
      rw [List.filter_cons_of_pos z, List.map_cons] at q
      exact q
    | false =>
      rw [if_neg Bool.false_ne_true]
      refine ih ?_
      rw [List.filter_cons_of_neg (by rw [z]; exact Bool.false_ne_true)] at q
      exact q
/-- a name -/
def Nm (z : Str) : Prop := 1 ≤ z.length ∧ z.length ≤ 6 ∧ low z
theorem low_ok {z : Str} (h : low z) : PyData.strOk z = true := by
  unfold PyData.strOk
  rw [Array.all_eq_true']
  intro c hc
  have := h c (by simpa using hc)
  exact decide_eq_true (by omega)
theorem gd_str {z : Str} (h : low z) : gd (.str z) := ⟨.str z, rfl, by simp only [PyData.canLay0]; exact low_ok h, by simp [PyData.depth]⟩
theorem low_ch {c : Nat} (h : 97 ≤ c ∧ c ≤ 122) : low ⟨#[c]⟩ := by
  intro b hb
  have : b = c := by simpa using hb
  rw [this]; exact h
def strOf : D → Str
  | .str z => z
  | _ => Str.empty
theorem app_inj {x y z : Str} (h : x ++ y = x ++ z) : y = z := by
  have h1 : x.cps ++ y.cps = x.cps ++ z.cps := congrArg Str.cps h
  obtain ⟨y⟩ := y
  obtain ⟨z⟩ := z
  exact congrArg Str.mk (Array.append_right_inj x.cps |>.mp h1)
theorem nd_map {α β : Type} {f : α → β} : ∀ {l : List α}, l.Nodup → (∀ a ∈ l, ∀ b ∈ l, f a = f b → a = b) → (l.map f).Nodup
  | [], _, _ => List.nodup_nil
  | x :: l, nd, h => by
    obtain ⟨n1, n2⟩ := List.nodup_cons.mp nd
    rw [List.map_cons, List.nodup_cons]
    refine ⟨fun z => ?_, nd_map n2 fun a ha b hb => h a (List.mem_cons_of_mem _ ha) b (List.mem_cons_of_mem _ hb)⟩
    obtain ⟨y, hy, e⟩ := List.mem_map.mp z
    have := h y (List.mem_cons_of_mem _ hy) x List.mem_cons_self e
    rw [this] at hy
    exact n1 hy
theorem abc_nodup : ((List.range 26).map fun i => chD (97 + i)).Nodup := by
  have : (List.range 26).Nodup := List.nodup_range
  refine nd_map this ?_
  intro a _ b _ e
  simp [chD] at e
  exact e
def S_law_names : Spc where
  run := fun rs μ Q _ => ∃ l n o, rs = [.loc l, .dat (.int n)] ∧ μ[l]? = some o ∧ Src o ∧ 0 ≤ n ∧ n ≤ 26 ∧ ∀ (ns : List Str) o', (ns.length : Int) = n → ns.Nodup → (∀ z ∈ ns, Nm z) → Src o' → Q (.dat (.lst (ns.map .str))) (μ.set l o')
  mono := fun rs μ Q Q' X X' ⟨l, n, o, h1, h2, h3, h4, h5, h6⟩ f g => ⟨l, n, o, h1, h2, h3, h4, h5, fun ns o' a b c d => f _ _ (h6 ns o' a b c d)⟩
def N_law_names : List Str := ["_law_source", "_law_many", "_law_stem_here", "_law_letters", "_law_letter"]
def A_law_names : S :=
    (.seq (.set 2 (.call "_law_stem" S_law_stem (.ref (.var 0) .nil)))
    (.seq (.set 3 (.call "_law_mixed" S_law_mixed (.ref (.var 0) (.cons (.bi .list (.ref (.cst (.str "abcdefghijklmnopqrstuvwxyz")) .nil)) .nil))))
    (.seq (.ret (.lc (.bin .add (.var 2) (.var 4)) (.nm 4) (.seq (.sl (.var 3) .no (.at (.var 1)))) .tt))
    .skip)))
theorem w_law_names : ∀ rs μ Q X, S_law_names.run rs μ Q X → wpS A_law_names (rs.map some ++ List.replicate (N_law_names.length - rs.length) none) μ (fin false μ.length Q X) := by
  rintro rs μ Q X ⟨l, n, o, rfl, hl, hs, hn0, hn1, hQ⟩
  have hlt : l < μ.length := (List.getElem?_eq_some_iff.mp hl).1
  have hg : ∀ o : O, (μ.set l o)[l]? = some o := fun o => by rw [List.getElem?_set_self hlt]
  unfold A_law_names
  simp [↓wpS, ↓wpT, ↓wpE, ↓wpA, ↓wpI, ↓wpO, ↓opt, N_law_names]
  refine ⟨l, o, rfl, hl, hs, fun st o1 hst h1 => ?_⟩
  have e1 : biL .list [.str "abcdefghijklmnopqrstuvwxyz"] = some ((List.range 26).map fun i => chD (97 + i)) := rfl
  simp only [vws_cons, vws_nil, vw_dat, Option.bind_some, Option.map_some, e1]
  refine ⟨l, _, o1, rfl, hg _, h1, by simp, fun x hx => ?_, fun ys o2 hp h2 => ?_⟩
  · obtain ⟨c, hc, rfl⟩ := abc_mem hx
    exact gd_str (low_ch hc)
  obtain ⟨m, rfl⟩ := Int.eq_ofNat_of_zero_le hn0
  simp only [List.set_set, vw_dat, Option.bind_some, cut_to]
  have hch : ∀ d ∈ ys.take m, ∃ c, (97 ≤ c ∧ c ≤ 122) ∧ d = chD c := fun d hd => abc_mem (hp.subset (List.mem_of_mem_take hd))
  have hyl : ys.length = 26 := by rw [hp.length_eq]; simp
  refine compL_pure (p := fun _ => true) (f := fun d => .str (st ++ strOf d)) (fun d hd => ⟨_, rfl, fun _ q => q, fun _ Q' q => ?_⟩) ?_
  · obtain ⟨c, hc, rfl⟩ := hch d hd
    have len : st.length + Str.length ⟨#[c]⟩ ≤ 16777216 := by have := hst.1; show st.length + 1 ≤ _; omega
    simp [wipeR, Tg.slots, chD, add_str len]
    exact q
  · rw [List.filter_eq_self.mpr fun _ _ => rfl, take_set]
    have e2 : (ys.take m).map (fun d => D.str (st ++ strOf d)) = ((ys.take m).map fun d => st ++ strOf d).map D.str := by rw [List.map_map]; rfl
    rw [e2]
    refine hQ _ _ (by simp; omega) ?_ ?_ h2
    · have nd : (ys.take m).Nodup := ((hp.nodup_iff).mpr abc_nodup).sublist (List.take_sublist _ _)
      refine nd_map nd fun a ha b hb e => ?_
      obtain ⟨c, _, rfl⟩ := hch a ha
      obtain ⟨c', _, rfl⟩ := hch b hb
      exact congrArg D.str (app_inj e)
    · intro z hz
      obtain ⟨d, hd, rfl⟩ := List.mem_map.mp hz
      obtain ⟨c, hc, rfl⟩ := hch d hd
      refine ⟨?_, ?_, low_app hst.2 (low_ch hc)⟩
      · rw [len_app]; show 1 ≤ _ + 1; omega
      · rw [len_app]; have := hst.1; show _ + 1 ≤ 6; omega
theorem rng_cons {lo : Int} {k : Nat} : rngD lo (k + 1) = .int lo :: rngD (lo + 1) k := by
  unfold rngD
  rw [List.range_succ_eq_map, List.map_cons, List.map_map]
  congr 1
  · simp
  · apply List.map_congr_left
    intro a _
    simp only [Function.comp]
    congr 1
    omega
end DL

namespace DL
open PySem PySem.Spec PyProof.Rows L2

/-- the store behind _law_begin: mu of before, the source, further things -/
def St (μ : Mu) (o : O) (g : Mu) : Mu := μ ++ o :: g
section
variable {μ g h : Mu} {o o' x y z : O} {j : Nat}
@[simp high] theorem St_get : (St μ o g)[μ.length]? = some o := by unfold St; rw [List.getElem?_append_right (Nat.le_refl _)]; simp
@[simp high] theorem St_set : (St μ o g).set μ.length o' = St μ o' g := by unfold St; rw [List.set_append_right _ _ (Nat.le_refl _)]; simp
@[simp high] theorem St_take : (St μ o g).take μ.length = μ := by unfold St; rw [List.take_left]
@[simp high] theorem St_app : St μ o g ++ h = St μ o (g ++ h) := by unfold St; simp
@[simp high] theorem St_len : (St μ o g).length = μ.length + 1 + g.length := by unfold St; simp; omega
@[simp high] theorem St_getG : (St μ o g)[μ.length + 1 + j]? = g[j]? := by
  unfold St
  rw [List.getElem?_append_right (by omega)]
  have : μ.length + 1 + j - μ.length = j + 1 := by omega
  rw [this]; rfl
@[simp high] theorem St_setG : (St μ o g).set (μ.length + 1 + j) x = St μ o (g.set j x) := by
  unfold St
  rw [List.set_append_right _ _ (by omega)]
  have : μ.length + 1 + j - μ.length = j + 1 := by omega
  rw [this]; rfl
@[simp high] theorem St_getG1 : (St μ o g)[μ.length + 1 + j + 1]? = g[j + 1]? := St_getG (j := j + 1)
@[simp high] theorem St_setG1 : (St μ o g).set (μ.length + 1 + j + 1) x = St μ o (g.set (j + 1) x) := St_setG (j := j + 1)
@[simp high] theorem gg0 {l : Mu} : (g ++ x :: l)[g.length]? = some x := by rw [List.getElem?_append_right (Nat.le_refl _)]; simp
@[simp high] theorem gg1 {l : Mu} : (g ++ x :: y :: l)[g.length + 1]? = some y := by rw [List.getElem?_append_right (Nat.le_succ _)]; simp
@[simp high] theorem gs0 {l : Mu} : (g ++ x :: l).set g.length z = g ++ z :: l := by rw [List.set_append_right _ _ (Nat.le_refl _)]; simp
@[simp high] theorem gs1 {l : Mu} : (g ++ x :: y :: l).set (g.length + 1) z = g ++ x :: z :: l := by rw [List.set_append_right _ _ (Nat.le_succ _)]; simp
theorem St_mk : μ ++ [o] = St μ o [] := rfl
end
/-- equal to itself -/
theorem eqD_self {xs : List D} (h : ∀ x ∈ xs, gd x) : eqD (.lst xs) (.lst xs) = some true := by
  obtain ⟨ps, f1, f2, f3, f4⟩ := gds h
  rw [eqD_lst f1 f1 (shL f2 f3) (shL f2 f3)]
  congr 1
  exact SeqAt.eqv_refl _ (by simp only [PyData.canLay0]; exact f2)
theorem gd_tup {xs : List D} (h : ∀ x ∈ xs, ∃ p, toPy x = some p ∧ p.canLay0 = true ∧ p.depth ≤ 61) : gd (.tup xs) := by
  have key : ∀ {xs : List D}, (∀ x ∈ xs, ∃ p, toPy x = some p ∧ p.canLay0 = true ∧ p.depth ≤ 61) → ∃ ps, toPys xs = some ps ∧ PyData.canLayAll0 ps = true ∧ PyData.depthAll ps ≤ 61 := by
    intro xs
    induction xs with
    | nil => exact fun _ => ⟨[], rfl, rfl, Nat.zero_le _⟩
    | cons x xs ih =>
      intro h
      obtain ⟨p, e1, e2, e3⟩ := h x List.mem_cons_self
      obtain ⟨ps, f1, f2, f3⟩ := ih fun y hy => h y (List.mem_cons_of_mem _ hy)
      exact ⟨p :: ps, by simp only [toPys, e1, f1, Option.bind_some, Option.map_some], by simp only [PyData.canLayAll0, e2, f2, Bool.and_self], by simp only [PyData.depthAll]; omega⟩
  obtain ⟨ps, f1, f2, f3⟩ := key h
  exact ⟨.tuple ps, by simp [toPy, f1], by simp only [PyData.canLay0]; exact f2, by simp only [PyData.depth]; omega⟩
theorem gd_strs {xs : List Str} (h : ∀ x ∈ xs, low x) : gd (.tup (xs.map .str)) := by
  refine gd_tup fun x hx => ?_
  obtain ⟨z, hz, rfl⟩ := List.mem_map.mp hx
  exact ⟨.str z, rfl, by simp only [PyData.canLay0]; exact low_ok (h z hz), by simp [PyData.depth]⟩
end DL

namespace DL
open PySem PySem.Spec PyProof.Rows L2

def isName : D → Bool
  | .str z => decide (1 ≤ z.length ∧ z.length ≤ 6) && z.cps.toList.all fun c => decide (97 ≤ c ∧ c ≤ 122)
  | _ => false
/-- a thing of the plain kinds -/
def plainD (d : D) : Prop := (tyD d).isSome = true ∧ ∀ z, d = .str z → z.length ≤ 16777216
def S_is_name : Spc where
  run := fun rs μ Q _ => ∃ d, rs = [.dat d] ∧ plainD d ∧ Q (.dat (.bl (isName d))) μ
  mono := fun rs μ Q Q' X X' ⟨d, h1, h2, h3⟩ f g => ⟨d, h1, h2, f _ _ h3⟩
def N_is_name : List Str := ["thing", "letter"]
def A_is_name : S :=
    (.seq (.ite (.or (.not (.v (.isi (.var 0) .str))) (.one (.not (.v (.chn .le .le (.cst (.int 1)) (.bi .len (.ref (.var 0) .nil)) (.glb "MOST_LETTERS" (.int 6))))))) (.seq (.ret (.cst (.bl false)))
    .skip)
    .skip)
    (.seq (.ret (.bi .all (.ref (.lc (.cmp .inn (.var 1) (.glb "LETTERS" (.str "abcdefghijklmnopqrstuvwxyz"))) (.nm 1) (.seq (.var 0)) .tt) .nil)))
    .skip))
theorem isi_str {d : D} (h : (tyD d).isSome = true) : isiD .str d = some (match d with | .str _ => true | _ => false) := by
  cases d <;> first | rfl | (cases h; done)
theorem isi_tup {d : D} (h : (tyD d).isSome = true) : isiD .tuple d = some (match d with | .tup _ => true | _ => false) := by
  cases d <;> first | rfl | (cases h; done)
theorem bls_map : ∀ bs : List Bool, blsD (bs.map D.bl) = some bs
  | [] => rfl
  | b :: bs => by show (blsD (bs.map D.bl)).map (b :: ·) = _; rw [bls_map bs]; rfl
def abcB : D → Bool
  | .str z => match z.cps.toList with
    | [c] => decide (97 ≤ c ∧ c ≤ 122)
    | _ => false
  | _ => false
theorem in_abc {c : Nat} : cmpD .inn (chD c) (.str "abcdefghijklmnopqrstuvwxyz") = some (abcB (chD c)) := by
  show some (decide (c ∈ List.range' 97 26)) = some (decide (97 ≤ c ∧ c ≤ 122))
  congr 1
  rw [decide_eq_decide, List.mem_range'_1]
  omega
theorem w_is_name : ∀ rs μ Q X, S_is_name.run rs μ Q X → wpS A_is_name (rs.map some ++ List.replicate (N_is_name.length - rs.length) none) μ (fin false μ.length Q X) := by
  rintro rs μ Q X ⟨d, rfl, ⟨h1, h2⟩, hQ⟩
  unfold A_is_name
  have tk : μ.take μ.length = μ := List.take_length
  cases d with
  | str z =>
    have hz := h2 z rfl
    simp [↓wpS, ↓wpT, ↓wpE, ↓wpA, ↓wpI, ↓opt, N_is_name, isi_str h1, bi_lenS hz, tk]
    have es : seqD (.str z) = some (z.cps.toList.map chD) := if_pos hz
    have sm : ∀ b : Bool, isName (.str z) = b → Q (.dat (.bl b)) μ := fun b e => by rw [← e]; exact hQ
    split
    · split
      · refine sm _ ?_
        simp only [isName]
        rw [decide_eq_false (by omega), Bool.false_and]
      · simp only [es]
        refine compL_pure (p := fun _ => true) (f := fun d => .bl (abcB d)) (fun d hd => ⟨_, rfl, fun _ q => q, fun _ Q' q => ?_⟩) ?_
        · obtain ⟨c, _, rfl⟩ := List.mem_map.mp hd
          simp [wipeR, Tg.slots, in_abc]
          exact q
        · rw [List.filter_eq_self.mpr fun _ _ => rfl, List.map_map]
          have e : (z.cps.toList.map ((fun d => D.bl (abcB d)) ∘ chD)) = (z.cps.toList.map fun c => decide (97 ≤ c ∧ c ≤ 122)).map D.bl := by rw [List.map_map]; rfl
          rw [e, bls_map]
          simp only [Option.map_some, tk]
          refine sm _ ?_
          simp only [isName]
          rw [decide_eq_true (by omega), Bool.true_and, List.all_map]
          rfl
    · refine sm _ ?_
      simp only [isName]
      rw [decide_eq_false (by omega), Bool.false_and]
  | non => simp [↓wpS, ↓wpT, ↓wpE, ↓wpA, ↓wpI, ↓opt, N_is_name, isi_str h1, tk]; exact hQ
  | bl _ => simp [↓wpS, ↓wpT, ↓wpE, ↓wpA, ↓wpI, ↓opt, N_is_name, isi_str h1, tk]; exact hQ
  | int _ => simp [↓wpS, ↓wpT, ↓wpE, ↓wpA, ↓wpI, ↓opt, N_is_name, isi_str h1, tk]; exact hQ
  | lst _ => simp [↓wpS, ↓wpT, ↓wpE, ↓wpA, ↓wpI, ↓opt, N_is_name, isi_str h1, tk]; exact hQ
  | tup _ => simp [↓wpS, ↓wpT, ↓wpE, ↓wpA, ↓wpI, ↓opt, N_is_name, isi_str h1, tk]; exact hQ
  | dic _ => simp [↓wpS, ↓wpT, ↓wpE, ↓wpA, ↓wpI, ↓opt, N_is_name, isi_str h1, tk]; exact hQ
  | dit _ => simp [↓wpS, ↓wpT, ↓wpE, ↓wpA, ↓wpI, ↓opt, N_is_name, isi_str h1, tk]; exact hQ
  | _ => cases h1
def isPair : D → Bool
  | .tup [a, b] => isName a && isName b
  | _ => false
/-- a thing whose items, if it is a tuple of two, are plain -/
def pairD (d : D) : Prop := plainD d ∧ ∀ a b, d = .tup [a, b] → plainD a ∧ plainD b
def S_is_pair : Spc where
  run := fun rs μ Q _ => ∃ d, rs = [.dat d] ∧ pairD d ∧ Q (.dat (.bl (isPair d))) μ
  mono := fun rs μ Q Q' X X' ⟨d, h1, h2, h3⟩ f g => ⟨d, h1, h2, f _ _ h3⟩
def N_is_pair : List Str := ["thing"]
def A_is_pair : S :=
    (.seq (.ret (.and (.isi (.var 0) .tuple) (.and (.cmp .eq (.bi .len (.ref (.var 0) .nil)) (.cst (.int 2))) (.and (.call "is_name" S_is_name (.cons (.ix (.var 0) (.cst (.int 0))) .nil)) (.one (.call "is_name" S_is_name (.cons (.ix (.var 0) (.cst (.int 1))) .nil)))))))
    .skip)
theorem eq_int {i j : Int} : eqD (.int i) (.int j) = some (decide (i = j)) := by
  show eqP (.int i) (.int j) = _
  simp [eqP, SeqAt.shaped, PyData.canLay0, PyData.depth, PyData.eqv]
  rfl
theorem w_is_pair : ∀ rs μ Q X, S_is_pair.run rs μ Q X → wpS A_is_pair (rs.map some ++ List.replicate (N_is_pair.length - rs.length) none) μ (fin false μ.length Q X) := by
  rintro rs μ Q X ⟨d, rfl, ⟨⟨h1, h2⟩, h3⟩, hQ⟩
  unfold A_is_pair
  have tk : μ.take μ.length = μ := List.take_length
  cases d with
  | tup xs =>
    simp [↓wpS, ↓wpT, ↓wpE, ↓wpA, ↓wpI, ↓opt, N_is_pair, isi_tup h1, eq_int, tk]
    match xs with
    | [] => exact hQ
    | [a] => exact hQ
    | [a, b] =>
      obtain ⟨p1, p2⟩ := h3 a b rfl
      simp
      refine ⟨a, rfl, p1, ?_⟩
      have e : isPair (.tup [a, b]) = (isName a && isName b) := rfl
      rw [e] at hQ
      cases q : isName a with
      | false => rw [q] at hQ; simpa [tk] using hQ
      | true =>
        rw [q] at hQ
        refine ⟨b, rfl, p2, ?_⟩
        simpa [tk] using hQ
    | a :: b :: c :: r =>
      have e : decide (((a :: b :: c :: r).length : Int) = 2) = false := decide_eq_false (by simp; omega)
      rw [e]
      exact hQ
  | non => simp [↓wpS, ↓wpT, ↓wpE, ↓wpA, ↓wpI, ↓opt, N_is_pair, isi_tup h1, tk]; exact hQ
  | bl _ => simp [↓wpS, ↓wpT, ↓wpE, ↓wpA, ↓wpI, ↓opt, N_is_pair, isi_tup h1, tk]; exact hQ
  | int _ => simp [↓wpS, ↓wpT, ↓wpE, ↓wpA, ↓wpI, ↓opt, N_is_pair, isi_tup h1, tk]; exact hQ
  | str _ => simp [↓wpS, ↓wpT, ↓wpE, ↓wpA, ↓wpI, ↓opt, N_is_pair, isi_tup h1, tk]; exact hQ
  | lst _ => simp [↓wpS, ↓wpT, ↓wpE, ↓wpA, ↓wpI, ↓opt, N_is_pair, isi_tup h1, tk]; exact hQ
  | dic _ => simp [↓wpS, ↓wpT, ↓wpE, ↓wpA, ↓wpI, ↓opt, N_is_pair, isi_tup h1, tk]; exact hQ
  | dit _ => simp [↓wpS, ↓wpT, ↓wpE, ↓wpA, ↓wpI, ↓opt, N_is_pair, isi_tup h1, tk]; exact hQ
  | _ => cases h1
theorem name_ok {z : Str} (h : Nm z) : isName (.str z) = true := by
  obtain ⟨h1, h2, h3⟩ := h
  simp only [isName]
  rw [Bool.and_eq_true]
  refine ⟨decide_eq_true ⟨h1, h2⟩, List.all_eq_true.mpr fun c hc => decide_eq_true (h3 c hc)⟩
theorem plain_str {z : Str} (h : z.length ≤ 16777216) : plainD (.str z) := ⟨rfl, fun y e => by cases e; exact h⟩
end DL

namespace DL
open PySem PySem.Spec PyProof.Rows L2

theorem forL_cons {tg : D → Rho → Option Rho} {body : Rho → Mu → Kt → Prop} {K : Kt} {d : D} {ds : List D} {ρ ρ' : Rho} {μ : Mu} (e : tg d ρ = some ρ')
    (h : ∀ K' : Kt, (∀ ρ μ, K'.nx ρ μ = forL tg body K ds ρ μ) → (∀ ρ μ, K'.ct ρ μ = forL tg body K ds ρ μ) → (∀ ρ μ, K'.bk ρ μ = K.nx ρ μ) → (∀ r μ, K'.rt r μ = K.rt r μ) → (∀ x ρ μ, K'.ex x ρ μ = K.ex x ρ μ) → body ρ' μ K') : forL tg body K (d :: ds) ρ μ := by
  show opt (tg d ρ) _
  rw [e]
  exact h _ (fun _ _ => rfl) (fun _ _ => rfl) (fun _ _ => rfl) (fun _ _ => rfl) fun _ _ _ => rfl
/-- the first place of a list of pairs at which no pair may stand: w the names that were written -/
def wrongAt : List D → List Str → Nat → Option Nat
  | [], _, _ => none
  | d :: ds, w, i => if isPair d then (match d with
      | .tup [.str x, _] => if w.contains x then some i else wrongAt ds (w ++ [x]) (i + 1)
      | _ => some i) else some i
def optD : Option Nat → D
  | none => .non
  | some i => .int i
theorem isPair_of {d : D} (h : isPair d = true) : ∃ x y, d = .tup [.str x, .str y] ∧ isName (.str x) = true ∧ isName (.str y) = true := by
  unfold isPair at h
  split at h
  · rename_i a b
    rw [Bool.and_eq_true] at h
    have h1 := h.1
    have h2 := h.2
    cases a <;> first | (cases h1; done) | skip
    cases b <;> first | (cases h2; done) | skip
    exact ⟨_, _, rfl, h.1, h.2⟩
  · cases h
theorem in_strs {x : Str} {w : List Str} : inD (.str x) (w.map .str) = some (w.contains x) := by
  have h1 : (w.map D.str).all flD = true := by rw [List.all_map]; exact List.all_eq_true.mpr fun _ _ => rfl
  unfold inD
  rw [if_pos (by rw [h1]; rfl), List.any_map]
  congr 1
  rw [List.contains_eq_any_beq]
  congr 1
  funext y
  show (y == x) = (x == y)
  rw [Bool.eq_iff_iff, beq_iff_eq, beq_iff_eq]
  exact eq_comm
def S_wrong_pair : Spc where
  run := fun rs μ Q _ => ∃ ds, rs = [.dat (.tup ds)] ∧ (∀ d ∈ ds, pairD d) ∧ ds.length < 1000000 ∧ Q (.dat (optD (wrongAt ds [] 0))) μ
  mono := fun rs μ Q Q' X X' ⟨d, h1, h2, h3, h4⟩ f g => ⟨d, h1, h2, h3, f _ _ h4⟩
def N_wrong_pair : List Str := ["pairs", "written", "at", "pair"]
def B_wrong_pair_0 : S :=
    (.seq (.ite (.or (.not (.v (.call "is_pair" S_is_pair (.cons (.var 3) .nil)))) (.one (.v (.cmp .inn (.ix (.var 3) (.cst (.int 0))) (.var 1))))) (.seq (.ret (.var 2))
    .skip)
    .skip)
    (.seq (.exp (.app (.var 1) (.ix (.var 3) (.cst (.int 0)))))
    .skip))
def A_wrong_pair : S :=
    (.seq (.set 1 (.lstO .nil))
    (.seq (.forr (.tp [2, 3]) (.enm (.var 0)) B_wrong_pair_0)
    (.seq (.ret (.cst .non))
    .skip)))
section
variable {ν : Mu} {n : Nat} {a c : O}
theorem bp0 (h : ν.length = n) : (ν ++ [a])[n]? = some a := by rw [← h, List.getElem?_append_right (Nat.le_refl _)]; simp
theorem bs0 (h : ν.length = n) : (ν ++ [a]).set n c = ν ++ [c] := by rw [← h, List.set_append_right _ _ (Nat.le_refl _)]; simp
theorem bt0 (h : ν.length = n) : (ν ++ [a]).take n = ν := by rw [← h, List.take_left]
end
theorem w_wrong_pair : ∀ rs μ Q X, S_wrong_pair.run rs μ Q X → wpS A_wrong_pair (rs.map some ++ List.replicate (N_wrong_pair.length - rs.length) none) μ (fin false μ.length Q X) := by
  rintro rs μ Q X ⟨ds, rfl, hp, hz, hQ⟩
  have loop : ∀ (es : List D) (w : List Str) (i : Nat) (r2 r3 : Option RV) (K : Kt), (∀ d ∈ es, pairD d) → w.length + es.length < 1000000 → (∀ j : Nat, wrongAt es w i = some j → ∀ μ', K.rt (.dat (.int j)) (μ ++ μ')) → (wrongAt es w i = none → ∀ ρ' μ', K.nx ρ' (μ ++ μ')) →
      forL (tgD (.tp [2, 3])) (fun ρ μ K => wpS B_wrong_pair_0 ρ μ K) K (enumD i es) [some (.dat (.tup ds)), some (.loc μ.length), r2, r3] (μ ++ [.lst (w.map .str)]) := by
    intro es
    induction es with
    | nil => intro w i r2 r3 K _ _ _ hn; exact hn rfl _ _
    | cons d es ih =>
      intro w i r2 r3 K hp hz hr hn
      have hd := hp d List.mem_cons_self
      refine forL_cons rfl fun K' hnx hct hbk hrt hex => ?_
      unfold B_wrong_pair_0
      simp [↓wpS, ↓wpT, ↓wpE, ↓wpA, ↓wpI, ↓opt]
      refine ⟨d, rfl, hd, ?_⟩
      cases q : isPair d with
      | false =>
        simp [hrt]
        exact hr i (by simp [wrongAt, q]) _
      | true =>
        obtain ⟨x, y, rfl, nx, ny⟩ := isPair_of q
        simp [bp0, bs0, in_strs, hrt, hnx]
        split
        · rename_i hc
          exact hr i (by simp [wrongAt, q, hc]) _
        · rename_i hc
          refine ⟨by simp at hz; omega, ?_⟩
          have e : (w.map D.str) ++ [D.str x] = (w ++ [x]).map D.str := by simp
          rw [e]
          refine ih (w ++ [x]) (i + 1) _ _ K (fun d hd => hp d (List.mem_cons_of_mem _ hd)) (by simp at hz ⊢; omega) (fun j hj => hr j ?_) fun hj => hn ?_
          · simp [wrongAt, q, hc, hj]
          · simp [wrongAt, q, hc, hj]
  unfold A_wrong_pair
  simp [↓wpS, ↓wpT, ↓wpE, ↓wpA, ↓wpI, ↓opt, N_wrong_pair]
  refine loop ds [] 0 _ _ _ hp (by simpa using hz) (fun j hj μ' => ?_) fun hj ρ' μ' => ?_
  · rw [hj] at hQ
    simp [List.take_left]
    exact hQ
  · rw [hj] at hQ
    simp [List.take_left]
    exact hQ
end DL

namespace DL
open PySem PySem.Spec PyProof.Rows L2

def both (ds : List D) : D := .obj "Both" [("kept_pairs", .lst ds)]
def S_Both_init : Spc where
  run := fun rs μ Q X => ∃ (l : Nat) (ds : List D), rs = .loc l :: ds.map RV.dat ∧ μ[l]? = some (.ins "Both" []) ∧ (∀ d ∈ ds, pairD d) ∧ ds.length < 1000000 ∧
    (12 < ds.length → X ⟨"TooMany", [("limit", .int 12)]⟩ μ) ∧ (ds.length ≤ 12 → ∀ i, wrongAt ds [] 0 = some i → X ⟨"BadBoth", [("at", .int i)]⟩ μ) ∧
    (ds.length ≤ 12 → wrongAt ds [] 0 = none → Q (.dat .non) (μ.set l (.ins "Both" [("kept_pairs", .lst ds)])))
  mono := fun rs μ Q Q' X X' ⟨l, ds, h1, h2, h3, h4, h5, h6, h7⟩ f g => ⟨l, ds, h1, h2, h3, h4, fun a => g _ _ (h5 a), fun a i b => g _ _ (h6 a i b), fun a b => f _ _ (h7 a b)⟩
def N_Both_init : List Str := ["self", "pairs", "at"]
def A_Both_init : S :=
    (.seq (.ite (.v (.cmp .gt (.bi .len (.ref (.var 1) .nil)) (.glb "MOST_PAIRS" (.int 12)))) (.seq (.rse "TooMany" ["limit"] (.cons (.glb "MOST_PAIRS" (.int 12)) .nil))
    .skip)
    .skip)
    (.seq (.set 2 (.call "wrong_pair" S_wrong_pair (.cons (.var 1) .nil)))
    (.seq (.ite (.v (.cmp .notN (.var 2) (.cst .non))) (.seq (.rse "BadBoth" ["at"] (.cons (.var 2) .nil))
    .skip)
    .skip)
    (.seq (.setfl (.var 0) "Both" "kept_pairs" (.bi .list (.ref (.var 1) .nil)))
    .skip))))
theorem w_Both_init : ∀ rs μ Q X, S_Both_init.run rs μ Q X → ∃ (ws : List RV) (ds : List D), rs = ws ++ ds.map RV.dat ∧ ws.length = 1 ∧ ds.length ≤ 16777216 ∧
    wpS A_Both_init ((ws ++ [RV.dat (.tup ds)]).map some ++ List.replicate (N_Both_init.length - (1 + 1)) none) μ (fin false μ.length Q X) := by
  rintro rs μ Q X ⟨l, ds, rfl, hl, hp, hz, h1, h2, h3⟩
  refine ⟨[.loc l], ds, rfl, rfl, by omega, ?_⟩
  have tk : μ.take μ.length = μ := List.take_length
  have hlt : l < μ.length := (List.getElem?_eq_some_iff.mp hl).1
  unfold A_Both_init
  simp [↓wpS, ↓wpT, ↓wpE, ↓wpA, ↓wpI, ↓opt, N_Both_init, tk]
  split
  · rename_i hc
    exact h1 (by omega)
  · rename_i hc
    refine ⟨ds, rfl, hp, hz, ?_⟩
    cases q : wrongAt ds [] 0 with
    | some i =>
      simp [optD, tk]
      exact h2 (by omega) i q
    | none =>
      simp [optD, hl, putD, take_set]
      exact h3 (by omega) q
def S_Both : Spc := mkS false "Both" S_Both_init
def S_Both_pairs : Spc where
  run := fun rs μ Q _ => ∃ ds, rs = [.dat (both ds)] ∧ Q (.dat (.lst ds)) μ
  mono := fun rs μ Q Q' X X' ⟨d, h1, h2⟩ f g => ⟨d, h1, f _ _ h2⟩
def N_Both_pairs : List Str := ["self"]
def A_Both_pairs : S :=
    (.seq (.ret (.bi .list (.ref (.fld (.var 0) "Both" "kept_pairs") .nil)))
    .skip)
theorem w_Both_pairs : ∀ rs μ Q X, S_Both_pairs.run rs μ Q X → wpS A_Both_pairs (rs.map some ++ List.replicate (N_Both_pairs.length - rs.length) none) μ (fin false μ.length Q X) := by
  rintro rs μ Q X ⟨ds, rfl, hQ⟩
  unfold A_Both_pairs
  simp [↓wpS, ↓wpT, ↓wpE, ↓wpA, ↓wpI, ↓opt, N_Both_pairs, both, List.lookup]
  exact hQ
def S_Both_len : Spc where
  run := fun rs μ Q _ => ∃ ds, rs = [.dat (both ds)] ∧ Q (.dat (.int ds.length)) μ
  mono := fun rs μ Q Q' X X' ⟨d, h1, h2⟩ f g => ⟨d, h1, f _ _ h2⟩
def N_Both_len : List Str := ["self"]
def A_Both_len : S :=
    (.seq (.ret (.bi .len (.ref (.fld (.var 0) "Both" "kept_pairs") .nil)))
    .skip)
theorem w_Both_len : ∀ rs μ Q X, S_Both_len.run rs μ Q X → wpS A_Both_len (rs.map some ++ List.replicate (N_Both_len.length - rs.length) none) μ (fin false μ.length Q X) := by
  rintro rs μ Q X ⟨ds, rfl, hQ⟩
  unfold A_Both_len
  simp [↓wpS, ↓wpT, ↓wpE, ↓wpA, ↓wpI, ↓opt, N_Both_len, both, List.lookup]
  exact hQ
end DL

namespace DL
open PySem PySem.Spec PyProof.Rows L2

theorem both_ok {ds : List D} {μ : Mu} {Q : QV} {X : QX} (hp : ∀ d ∈ ds, pairD d) (hz : ds.length < 1000000) (h1 : 12 < ds.length → X ⟨"TooMany", [("limit", .int 12)]⟩ μ)
    (h2 : ds.length ≤ 12 → ∀ i, wrongAt ds [] 0 = some i → X ⟨"BadBoth", [("at", .int i)]⟩ μ) (h3 : ds.length ≤ 12 → wrongAt ds [] 0 = none → Q (.dat (both ds)) μ) : S_Both.run (ds.map .dat) μ Q X := by
  refine ⟨μ.length, ds, rfl, bp0 rfl, hp, hz, fun a => ?_, fun a i b => ?_, fun a b => ⟨rfl, ?_⟩⟩
  · show X _ (List.take _ _); rw [bt0 rfl]; exact h1 a
  · show X _ (List.take _ _); rw [bt0 rfl]; exact h2 a i b
  · rw [bs0 rfl]
    show opt (fz _ _) _
    simp [bp0, bs0, bt0, opt]
    exact h3 a b
def pr (p : Str × Str) : D := .tup [.str p.1, .str p.2]
def mv (p : Str × Str) : Bool := !(p.1 == p.2)
theorem ne_str {x y : Str} : eqD (.str x) (.str y) = some (x == y) := rfl
def S_Both_moving : Spc where
  run := fun rs μ Q _ => ∃ ps : List (Str × Str), rs = [.dat (both (ps.map pr))] ∧ Q (.dat (.lst ((ps.filter mv).map pr))) μ
  mono := fun rs μ Q Q' X X' ⟨d, h1, h2⟩ f g => ⟨d, h1, f _ _ h2⟩
def N_Both_moving : List Str := ["self", "pair"]
def A_Both_moving : S :=
    (.seq (.ret (.lc (.var 1) (.nm 1) (.seq (.fld (.var 0) "Both" "kept_pairs")) (.v (.cmp .ne (.ix (.var 1) (.cst (.int 0))) (.ix (.var 1) (.cst (.int 1)))))))
    .skip)
def mvD : D → Bool
  | .tup [.str x, .str y] => !(x == y)
  | _ => false
theorem filt_pr {ps : List (Str × Str)} : ((ps.map pr).filter mvD).map id = (ps.filter mv).map pr := by
  rw [List.map_id, List.filter_map]
  rfl
theorem w_Both_moving : ∀ rs μ Q X, S_Both_moving.run rs μ Q X → wpS A_Both_moving (rs.map some ++ List.replicate (N_Both_moving.length - rs.length) none) μ (fin false μ.length Q X) := by
  rintro rs μ Q X ⟨ps, rfl, hQ⟩
  unfold A_Both_moving
  simp [↓wpS, ↓wpT, ↓wpE, ↓wpA, ↓wpI, ↓opt, N_Both_moving, both, List.lookup, seqD]
  refine compL_pure (p := mvD) (f := id) (fun d hd => ⟨_, rfl, fun _ q => ?_, fun _ Q' q => ?_⟩) ?_
  · obtain ⟨⟨x, y⟩, _, rfl⟩ := List.mem_map.mp hd
    simp [wipeR, Tg.slots, pr, ne_str]
    exact q
  · simp [wipeR, Tg.slots]
    exact q
  · rw [filt_pr]
    simpa using hQ
def S_law_moved : Spc where
  run := fun rs μ Q _ => ∃ ps : List (Str × Str), rs = [.dat (.lst (ps.map pr))] ∧ Q (.dat (.lst ((ps.filter mv).map pr))) μ
  mono := fun rs μ Q Q' X X' ⟨d, h1, h2⟩ f g => ⟨d, h1, f _ _ h2⟩
def N_law_moved : List Str := ["_law_pairs", "_law_pair"]
def A_law_moved : S :=
    (.seq (.ret (.lc (.var 1) (.nm 1) (.seq (.var 0)) (.v (.cmp .ne (.ix (.var 1) (.cst (.int 0))) (.ix (.var 1) (.cst (.int 1)))))))
    .skip)
theorem w_law_moved : ∀ rs μ Q X, S_law_moved.run rs μ Q X → wpS A_law_moved (rs.map some ++ List.replicate (N_law_moved.length - rs.length) none) μ (fin false μ.length Q X) := by
  rintro rs μ Q X ⟨ps, rfl, hQ⟩
  unfold A_law_moved
  simp [↓wpS, ↓wpT, ↓wpE, ↓wpA, ↓wpI, ↓opt, N_law_moved, seqD]
  refine compL_pure (p := mvD) (f := id) (fun d hd => ⟨_, rfl, fun _ q => ?_, fun _ Q' q => ?_⟩) ?_
  · obtain ⟨⟨x, y⟩, _, rfl⟩ := List.mem_map.mp hd
    simp [wipeR, Tg.slots, pr, ne_str]
    exact q
  · simp [wipeR, Tg.slots]
    exact q
  · rw [filt_pr]
    simpa using hQ
def S_law_new : Spc where
  run := fun rs μ Q X => ∃ ds, rs = [.dat (.lst ds)] ∧ (∀ d ∈ ds, pairD d) ∧ ds.length ≤ 3 ∧ (∀ i, wrongAt ds [] 0 = some i → X ⟨"BadBoth", [("at", .int i)]⟩ μ) ∧ (wrongAt ds [] 0 = none → Q (.dat (both ds)) μ)
  mono := fun rs μ Q Q' X X' ⟨ds, h1, h3, h4, h6, h7⟩ f g => ⟨ds, h1, h3, h4, fun i b => g _ _ (h6 i b), fun b => f _ _ (h7 b)⟩
def N_law_new : List Str := ["_law_pairs"]
def A_law_new : S :=
    (.seq (.ite (.v (.cmp .eq (.bi .len (.ref (.var 0) .nil)) (.cst (.int 0)))) (.seq (.ret (.call "Both" S_Both .nil))
    .skip)
    .skip)
    (.seq (.ite (.v (.cmp .eq (.bi .len (.ref (.var 0) .nil)) (.cst (.int 1)))) (.seq (.ret (.call "Both" S_Both (.cons (.ix (.var 0) (.cst (.int 0))) .nil)))
    .skip)
    .skip)
    (.seq (.ite (.v (.cmp .eq (.bi .len (.ref (.var 0) .nil)) (.cst (.int 2)))) (.seq (.ret (.call "Both" S_Both (.cons (.ix (.var 0) (.cst (.int 0))) (.cons (.ix (.var 0) (.cst (.int 1))) .nil))))
    .skip)
    .skip)
    (.seq (.ret (.call "Both" S_Both (.cons (.ix (.var 0) (.cst (.int 0))) (.cons (.ix (.var 0) (.cst (.int 1))) (.cons (.ix (.var 0) (.cst (.int 2))) .nil)))))
    .skip))))
theorem w_law_new : ∀ rs μ Q X, S_law_new.run rs μ Q X → wpS A_law_new (rs.map some ++ List.replicate (N_law_new.length - rs.length) none) μ (fin false μ.length Q X) := by
  rintro rs μ Q X ⟨ds, rfl, hp, hz, h1, h2⟩
  unfold A_law_new
  have tk : μ.take μ.length = μ := List.take_length
  have key : S_Both.run (ds.map .dat) μ (fin false μ.length Q X).rt (fun x m => X x (m.take μ.length)) := by
    refine both_ok hp (by omega) (fun h => by omega) (fun _ i e => ?_) fun _ e => ?_
    · rw [tk]; exact h1 i e
    · simp [tk]; exact h2 e
  match ds, hz with
  | [], _ => simp [↓wpS, ↓wpT, ↓wpE, ↓wpA, ↓wpI, ↓opt, N_law_new, eq_int]; exact key
  | [a], _ => simp [↓wpS, ↓wpT, ↓wpE, ↓wpA, ↓wpI, ↓opt, N_law_new, eq_int]; exact key
  | [a, b], _ => simp [↓wpS, ↓wpT, ↓wpE, ↓wpA, ↓wpI, ↓opt, N_law_new, eq_int]; exact key
  | [a, b, c], _ => simp [↓wpS, ↓wpT, ↓wpE, ↓wpA, ↓wpI, ↓opt, N_law_new, eq_int]; exact key
end DL

namespace DL
open PySem

abbrev Ps := List (Str × Str)
/-- where the value of x comes from -/
def bsrc : Ps → Str → Str
  | [], x => x
  | p :: r, x => if p.1 == x then p.2 else bsrc r x
def xsOf (ps : Ps) : List Str := ps.map Prod.fst
/-- those of a list that are not among w, each once -/
def fresh : List Str → List Str → List Str
  | [], _ => []
  | x :: xs, w => if w.contains x then fresh xs w else x :: fresh xs (w ++ [x])
def bhd (ps qs : Ps) : Ps := (fresh (xsOf ps ++ xsOf qs) []).map fun x => (x, bsrc ps (bsrc qs x))

theorem bsrc_not : ∀ {ps : Ps} {x : Str}, x ∉ xsOf ps → bsrc ps x = x
  | [], _, _ => rfl
  | p :: r, x, h => by
    simp only [xsOf, List.map_cons, List.mem_cons, not_or] at h
    unfold bsrc
    rw [if_neg (by simpa using fun e => h.1 e.symm)]
    exact bsrc_not h.2
theorem bsrc_mem : ∀ {ps : Ps} {x : Str}, x ∈ xsOf ps → (x, bsrc ps x) ∈ ps
  | [], _, h => by simp [xsOf] at h
  | p :: r, x, h => by
    unfold bsrc
    by_cases e : p.1 = x
    · rw [if_pos (by simpa using e)]
      subst e
      exact List.mem_cons_self
    · rw [if_neg (by simpa using e)]
      have h2 : x ∈ xsOf r := by
        simp only [xsOf, List.map_cons, List.mem_cons] at h
        rcases h with h | h
        · exact absurd h.symm e
        · exact h
      exact List.mem_cons_of_mem _ (bsrc_mem h2)
theorem bsrc_of : ∀ {ps : Ps} {x y : Str}, (xsOf ps).Nodup → (x, y) ∈ ps → bsrc ps x = y
  | [], _, _, _, h => by simp at h
  | p :: r, x, y, nd, h => by
    simp only [xsOf, List.map_cons, List.nodup_cons] at nd
    unfold bsrc
    rcases List.mem_cons.mp h with h | h
    · subst h
      rw [if_pos (by simp)]
    · have : p.1 ≠ x := fun e => nd.1 (e ▸ List.mem_map.mpr ⟨_, h, rfl⟩)
      rw [if_neg (by simpa using this)]
      exact bsrc_of nd.2 h
theorem bsrc_fun {f : Str → Str} : ∀ {xs : List Str} {x : Str}, bsrc (xs.map fun x => (x, f x)) x = if x ∈ xs then f x else x
  | [], x => by simp [bsrc]
  | z :: xs, x => by
    rw [List.map_cons]
    unfold bsrc
    by_cases e : z = x
    · subst e
      simp
    · rw [if_neg (by simpa using e), bsrc_fun]
      have : (x ∈ z :: xs) ↔ (x ∈ xs) := by
        rw [List.mem_cons]
        exact ⟨fun h => h.resolve_left fun z => e z.symm, .inr⟩
      simp only [this]
theorem xsOf_fun {f : Str → Str} {xs : List Str} : xsOf (xs.map fun x => (x, f x)) = xs := by
  unfold xsOf
  rw [List.map_map]
  exact List.map_id _
theorem fresh_mem {x : Str} : ∀ {xs w : List Str}, x ∈ fresh xs w ↔ x ∈ xs ∧ x ∉ w
  | [], w => by simp [fresh]
  | z :: xs, w => by
    unfold fresh
    by_cases h : z ∈ w
    · rw [if_pos (by simpa using h), fresh_mem]
      constructor
      · exact fun ⟨a, b⟩ => ⟨List.mem_cons_of_mem _ a, b⟩
      · rintro ⟨a, b⟩
        rcases List.mem_cons.mp a with rfl | a
        · exact absurd h b
        · exact ⟨a, b⟩
    · rw [if_neg (by simpa using h), List.mem_cons, fresh_mem]
      constructor
      · rintro (rfl | ⟨a, b⟩)
        · exact ⟨List.mem_cons_self, h⟩
        · exact ⟨List.mem_cons_of_mem _ a, fun z => b (List.mem_append_left _ z)⟩
      · rintro ⟨a, b⟩
        rcases List.mem_cons.mp a with rfl | a
        · exact .inl rfl
        · by_cases e : x = z
          · exact .inl e
          · exact .inr ⟨a, fun q => by rcases List.mem_append.mp q with q | q; exact b q; exact e (by simpa using q)⟩
theorem fresh_nd : ∀ {xs w : List Str}, (fresh xs w).Nodup
  | [], w => List.nodup_nil
  | z :: xs, w => by
    unfold fresh
    split
    · exact fresh_nd
    · rw [List.nodup_cons]
      refine ⟨fun h => ?_, fresh_nd⟩
      exact (fresh_mem.mp h).2 (List.mem_append_right _ List.mem_cons_self)
theorem fresh_filter : ∀ {xs w : List Str}, xs.Nodup → fresh xs w = xs.filter fun x => !w.contains x
  | [], w, _ => rfl
  | z :: xs, w, nd => by
    obtain ⟨n1, n2⟩ := List.nodup_cons.mp nd
    unfold fresh
    rw [List.filter_cons]
    cases h : w.contains z with
    | true => simp; rw [fresh_filter n2]; simp
    | false =>
      simp
      rw [fresh_filter n2]
      apply List.filter_congr
      intro x hx
      have : x ≠ z := fun e => n1 (e ▸ hx)
      simp [this]
theorem fresh_app : ∀ {xs ys w : List Str}, fresh (xs ++ ys) w = fresh xs w ++ fresh ys (w ++ fresh xs w)
  | [], ys, w => by simp [fresh]
  | z :: xs, ys, w => by
    rw [List.cons_append, fresh.eq_2, fresh.eq_2]
    cases h : w.contains z with
    | true => simp only [if_true]; exact fresh_app
    | false =>
      simp only [Bool.false_eq_true, if_false, List.cons_append]
      rw [fresh_app]
      simp
theorem bhd_eq {ps qs : Ps} (h1 : (xsOf ps).Nodup) (h2 : (xsOf qs).Nodup) : bhd ps qs = (xsOf ps ++ (xsOf qs).filter fun x => !(xsOf ps).contains x).map fun x => (x, bsrc ps (bsrc qs x)) := by
  unfold bhd
  have e : fresh (xsOf ps) [] = xsOf ps := by rw [fresh_filter h1]; simp
  rw [fresh_app, e, fresh_filter h2]
  simp
theorem bhd_xs {ps qs : Ps} : xsOf (bhd ps qs) = fresh (xsOf ps ++ xsOf qs) [] := xsOf_fun
theorem bhd_nd {ps qs : Ps} : (xsOf (bhd ps qs)).Nodup := by rw [bhd_xs]; exact fresh_nd
theorem bhd_src {ps qs : Ps} {x : Str} : bsrc (bhd ps qs) x = bsrc ps (bsrc qs x) := by
  unfold bhd
  rw [bsrc_fun]
  split
  · rfl
  · rename_i h
    rw [fresh_mem] at h
    have h2 : x ∉ xsOf ps ∧ x ∉ xsOf qs := by
      constructor
      · exact fun z => h ⟨List.mem_append_left _ z, by simp⟩
      · exact fun z => h ⟨List.mem_append_right _ z, by simp⟩
    rw [bsrc_not h2.2, bsrc_not h2.1]
theorem self_fun : ∀ {ps : Ps}, (xsOf ps).Nodup → (xsOf ps).map (fun x => (x, bsrc ps x)) = ps
  | [], _ => rfl
  | p :: r, nd => by
    have nd' := nd
    simp only [xsOf, List.map_cons, List.nodup_cons] at nd
    have e : ∀ x ∈ xsOf r, (x, bsrc (p :: r) x) = (x, bsrc r x) := by
      intro x hx
      have : p.1 ≠ x := fun e => nd.1 (e ▸ hx)
      unfold bsrc
      rw [if_neg (by simpa using this)]
      cases r <;> rfl
    show (p.1, bsrc (p :: r) p.1) :: (xsOf r).map (fun x => (x, bsrc (p :: r) x)) = p :: r
    rw [List.map_congr_left e, self_fun nd.2, bsrc_of nd' List.mem_cons_self]
theorem bhd_nil {ps : Ps} (h : (xsOf ps).Nodup) : bhd ps [] = ps := by
  rw [bhd_eq (qs := []) h List.nodup_nil]
  simp only [xsOf, List.map_nil, List.filter_nil, List.append_nil, bsrc]
  exact self_fun h
theorem bhd_assoc {a b c : Ps} : bhd (bhd a b) c = bhd a (bhd b c) := by
  have e : fresh (xsOf (bhd a b) ++ xsOf c) [] = fresh (xsOf a ++ xsOf (bhd b c)) [] := by
    rw [bhd_xs, bhd_xs]
    have idem : ∀ {xs w : List Str}, fresh (fresh xs w) w = fresh xs w := by
      intro xs w
      rw [fresh_filter fresh_nd]
      apply List.filter_eq_self.mpr
      intro x hx
      have := (fresh_mem.mp hx).2
      simpa using this
    have sub : ∀ {xs w v : List Str}, (∀ x ∈ v, x ∈ w) → fresh (fresh xs v) w = fresh xs w := by
      intro xs
      induction xs with
      | nil => intros; rfl
      | cons z xs ih =>
        intro w v h
        rw [fresh.eq_2]
        split
        · rename_i hz
          have hz' : z ∈ w := h z (by simpa using hz)
          rw [ih h]
          conv => rhs; unfold fresh
          rw [if_pos (by simpa using hz')]
        · rename_i hz
          conv => lhs; unfold fresh
          conv => rhs; unfold fresh
          split
          · rename_i hw
            refine ih fun x hx => ?_
            rcases List.mem_append.mp hx with q | q
            · exact h x q
            · have : x = z := by simpa using q
              subst this
              simpa using hw
          · congr 1
            exact ih fun x hx => by
              rcases List.mem_append.mp hx with q | q
              · exact List.mem_append_left _ (h x q)
              · exact List.mem_append_right _ q
    rw [fresh_app, idem, fresh_app (xs := xsOf a), fresh_app (xs := xsOf a), List.append_assoc]
    congr 1
    simp only [List.nil_append]
    rw [sub (by simp), fresh_app]
  unfold bhd at e ⊢
  rw [e]
  apply List.map_congr_left
  intro x _
  have e1 := @bhd_src a b
  have e2 := @bhd_src b c
  unfold bhd at e1 e2
  rw [e1, e2]
theorem bhd_len {ps qs : Ps} : (bhd ps qs).length ≤ ps.length + qs.length := by
  have key : ∀ (xs w : List Str), (fresh xs w).length ≤ xs.length := by
    intro xs
    induction xs with
    | nil => intro w; exact Nat.le_refl _
    | cons z xs ih =>
      intro w
      unfold fresh
      split
      · exact Nat.le_succ_of_le (ih _)
      · exact Nat.succ_le_succ (ih _)
  unfold bhd
  rw [List.length_map]
  refine Nat.le_trans (key _ _) ?_
  simp [xsOf]
theorem bsrc_P {P : Str → Prop} {ps : Ps} {x : Str} (h : ∀ p ∈ ps, P p.2) (hx : P x) : P (bsrc ps x) := by
  by_cases e : x ∈ xsOf ps
  · exact h _ (bsrc_mem e)
  · rw [bsrc_not e]; exact hx
theorem bhd_P {P : Str → Prop} {ps qs : Ps} (h : ∀ p ∈ ps, P p.1 ∧ P p.2) (h' : ∀ p ∈ qs, P p.1 ∧ P p.2) : ∀ p ∈ bhd ps qs, P p.1 ∧ P p.2 := by
  intro p hp
  obtain ⟨x, hx, rfl⟩ := List.mem_map.mp hp
  have hx' : P x := by
    rcases List.mem_append.mp (fresh_mem.mp hx).1 with q | q
    · obtain ⟨p, hq, rfl⟩ := List.mem_map.mp q; exact (h p hq).1
    · obtain ⟨p, hq, rfl⟩ := List.mem_map.mp q; exact (h' p hq).1
  exact ⟨hx', bsrc_P (fun p hp => (h p hp).2) (bsrc_P (fun p hp => (h' p hp).2) hx')⟩
end DL

namespace DL
open PySem PySem.Spec PyProof.Rows L2

@[simp] theorem both_inj {a b : List D} : both a = both b ↔ a = b := by simp [both]
@[simp] theorem pr_inj {p q : Str × Str} : pr p = pr q ↔ p = q := by
  obtain ⟨a, b⟩ := p
  obtain ⟨c, d⟩ := q
  simp [pr]
@[simp] theorem prs_inj {ps qs : Ps} : ps.map pr = qs.map pr ↔ ps = qs := List.map_inj_right fun a b h => pr_inj.mp h
section
variable {μ : Mu} {Q : QV} {X : QX} {ps : Ps} {ds : List D} {c : Str} {r : RV} {d : D}
@[simp] theorem isOf_both {m : Str} : isOf "Both" m μ (.dat (both ds)) ↔ (m == ("kept_pairs" : Str)) = false := by
  show ("Both" : Str) = "Both" ∧ List.lookup m [("kept_pairs", D.lst ds)] = none ↔ _
  rw [List.lookup_cons]
  cases h : m == ("kept_pairs" : Str) <;> simp
@[simp] theorem nk1 : (("pairs" : Str) == "kept_pairs") = false := by decide
@[simp] theorem nk2 : (("moving" : Str) == "kept_pairs") = false := by decide
@[simp] theorem nk3 : (("__or__" : Str) == "kept_pairs") = false := by decide
@[simp] theorem nk4 : (("__ror__" : Str) == "kept_pairs") = false := by decide
@[simp] theorem nk5 : (("__and__" : Str) == "kept_pairs") = false := by decide
@[simp] theorem nk6 : (("__eq__" : Str) == "kept_pairs") = false := by decide
@[simp] theorem nk7 : (("__contains__" : Str) == "kept_pairs") = false := by decide
@[simp] theorem nk8 : (("__getitem__" : Str) == "kept_pairs") = false := by decide
@[simp] theorem nk9 : (("__call__" : Str) == "kept_pairs") = false := by decide
@[simp] theorem nk10 : (("__class__" : Str) == "kept_pairs") = false := by decide
@[simp] theorem nk11 : (("names" : Str) == "kept_pairs") = false := by decide
@[simp] theorem nk12 : (("takers" : Str) == "kept_pairs") = false := by decide
@[simp] theorem nk13 : (("rings" : Str) == "kept_pairs") = false := by decide
@[simp] theorem nk14 : (("ring_of" : Str) == "kept_pairs") = false := by decide
@[simp] theorem nk15 : (("loose" : Str) == "kept_pairs") = false := by decide
@[simp] theorem nk16 : (("pure_rings" : Str) == "kept_pairs") = false := by decide
@[simp] theorem run_is_name : S_is_name.run [.dat d] μ Q X ↔ plainD d ∧ Q (.dat (.bl (isName d))) μ := by
  constructor
  · rintro ⟨_, h, a, b⟩; cases h; exact ⟨a, b⟩
  · exact fun ⟨a, b⟩ => ⟨_, rfl, a, b⟩
@[simp] theorem run_moving : S_Both_moving.run [.dat (both (ps.map pr))] μ Q X ↔ Q (.dat (.lst ((ps.filter mv).map pr))) μ := by
  constructor
  · rintro ⟨qs, h, b⟩; simp at h; subst h; exact b
  · exact fun b => ⟨_, rfl, b⟩
@[simp] theorem run_pairs : S_Both_pairs.run [.dat (both ds)] μ Q X ↔ Q (.dat (.lst ds)) μ := by
  constructor
  · rintro ⟨qs, h, b⟩; simp at h; subst h; exact b
  · exact fun b => ⟨_, rfl, b⟩
@[simp] theorem run_moved : S_law_moved.run [.dat (.lst (ps.map pr))] μ Q X ↔ Q (.dat (.lst ((ps.filter mv).map pr))) μ := by
  constructor
  · rintro ⟨qs, h, b⟩; simp at h; subst h; exact b
  · exact fun b => ⟨_, rfl, b⟩
@[simp] theorem fl_or : Oo.flip .or = false := rfl
@[simp] theorem fl_and : Oo.flip .and = false := rfl
@[simp] theorem fl_ror : Oo.flip .ror = true := rfl
@[simp] theorem fl_eq : Oo.flip .eq = false := rfl
@[simp] theorem fl_ne : Oo.flip .ne = false := rfl
@[simp] theorem fl_le : Oo.flip .le = false := rfl
@[simp] theorem fl_inn : Oo.flip .inn = true := rfl
@[simp] theorem fl_nin : Oo.flip .nin = true := rfl
@[simp] theorem fl_ix : Oo.flip .ix = false := rfl
@[simp] theorem nm_or : Oo.nm .or = "__or__" := rfl
@[simp] theorem nm_and : Oo.nm .and = "__and__" := rfl
@[simp] theorem nm_ror : Oo.nm .ror = "__ror__" := rfl
@[simp] theorem nm_eq : Oo.nm .eq = "__eq__" := rfl
@[simp] theorem nm_ne : Oo.nm .ne = "__eq__" := rfl
@[simp] theorem nm_le : Oo.nm .le = "__le__" := rfl
@[simp] theorem nm_inn : Oo.nm .inn = "__contains__" := rfl
@[simp] theorem nm_nin : Oo.nm .nin = "__contains__" := rfl
@[simp] theorem nm_ix : Oo.nm .ix = "__getitem__" := rfl
@[simp] theorem ft_or : Oo.fits .or c μ r = isOf c "__or__" μ r := rfl
@[simp] theorem ft_and : Oo.fits .and c μ r = isOf c "__and__" μ r := rfl
@[simp] theorem ft_ror : Oo.fits .ror c μ r = ∃ xs, vw μ r = some (.lst xs) := rfl
@[simp] theorem ft_eq : Oo.fits .eq c μ r = isOf c "__eq__" μ r := rfl
@[simp] theorem ft_ne : Oo.fits .ne c μ r = isOf c "__eq__" μ r := rfl
@[simp] theorem ft_le : Oo.fits .le c μ r = isOf c "__eq__" μ r := rfl
@[simp] theorem ft_inn : Oo.fits .inn c μ r = True := rfl
@[simp] theorem ft_nin : Oo.fits .nin c μ r = True := rfl
@[simp] theorem ft_ix : Oo.fits .ix c μ r = True := rfl
@[simp] theorem bk_or : Oo.back .or Q = Q := rfl
@[simp] theorem bk_and : Oo.back .and Q = Q := rfl
@[simp] theorem bk_ror : Oo.back .ror Q = Q := rfl
@[simp] theorem bk_ix : Oo.back .ix Q = Q := rfl
@[simp] theorem bk_eq {z : Bool} : Oo.back .eq Q (.dat (.bl z)) μ ↔ Q (.dat (.bl z)) μ := ⟨fun ⟨_, e, q⟩ => by cases e; exact q, fun q => ⟨_, rfl, q⟩⟩
@[simp] theorem bk_ne {z : Bool} : Oo.back .ne Q (.dat (.bl z)) μ ↔ Q (.dat (.bl (!z))) μ := ⟨fun ⟨_, e, q⟩ => by cases e; exact q, fun q => ⟨_, rfl, q⟩⟩
@[simp] theorem bk_le {z : Bool} : Oo.back .le Q (.dat (.bl z)) μ ↔ Q (.dat (.bl z)) μ := ⟨fun ⟨_, e, q⟩ => by cases e; exact q, fun q => ⟨_, rfl, q⟩⟩
@[simp] theorem bk_inn {z : Bool} : Oo.back .inn Q (.dat (.bl z)) μ ↔ Q (.dat (.bl z)) μ := ⟨fun ⟨_, e, q⟩ => by cases e; exact q, fun q => ⟨_, rfl, q⟩⟩
@[simp] theorem bk_nin {z : Bool} : Oo.back .nin Q (.dat (.bl z)) μ ↔ Q (.dat (.bl (!z))) μ := ⟨fun ⟨_, e, q⟩ => by cases e; exact q, fun q => ⟨_, rfl, q⟩⟩
@[simp] theorem tkl : List.take μ.length μ = μ := List.take_length
end
@[simp] theorem opt_some {α : Type} {a : α} {P : α → Prop} : opt (some a) P = P a := rfl
@[simp] theorem opt_none {α : Type} {P : α → Prop} : opt none P = False := rfl
def tupS (ns : List Str) : D := .tup (ns.map .str)
/-- names of letters -/
def PsN (ps : Ps) : Prop := ∀ p ∈ ps, Nm p.1 ∧ Nm p.2
theorem Nm.plain {z : Str} (h : Nm z) : plainD (.str z) := plain_str (by have := h.2.1; omega)
theorem compL_map {tg : D → Rho → Option Rho} {ts : Rho → Mu → QB → Prop} {el : Rho → Mu → QV → Prop} {ρ : Rho} {μ : Mu} {α : Type} {g : α → D} {p : α → Bool} {f : α → D} :
    ∀ {as : List α} {Q : QD}, (∀ a ∈ as, ∃ ρ', tg (g a) ρ = some ρ' ∧ (∀ Q : QB, Q (p a) μ → ts ρ' μ Q) ∧ (p a = true → ∀ Q : QV, Q (.dat (f a)) μ → el ρ' μ Q)) → Q ((as.filter p).map f) μ → compL tg ts el ρ (as.map g) μ Q
  | [], Q, _, q => q
  | a :: as, Q, h, q => by
    obtain ⟨ρ', e, h1, h2⟩ := h a List.mem_cons_self
    have ih := fun {Q : QD} => compL_map (as := as) (Q := Q) fun y hy => h y (List.mem_cons_of_mem _ hy)
    show opt (tg (g a) ρ) _
    rw [e]
    refine h1 _ ?_
    cases z : p a with
    | true =>
      rw [if_pos rfl]
      refine h2 z _ ?_
      show opt (some (f a, μ)) _
      refine ih ?_
      rw [List.filter_cons_of_pos z, List.map_cons] at q
      exact q
    | false =>
      rw [if_neg Bool.false_ne_true]
      refine ih ?_
      rw [List.filter_cons_of_neg (by rw [z]; exact Bool.false_ne_true)] at q
      exact q
theorem compV_map {ck : Mu → Prop} {tg : D → Rho → Option Rho} {ts : Rho → Mu → QB → Prop} {el : Rho → Mu → QV → Prop} {ρ : Rho} {μ : Mu} {α : Type} {g : α → D} {p : α → Bool} {f : α → D} (hc : ck μ) :
    ∀ {as : List α} {Q : QD}, (∀ a ∈ as, ∃ ρ', tg (g a) ρ = some ρ' ∧ (∀ Q : QB, Q (p a) μ → ts ρ' μ Q) ∧ (p a = true → ∀ Q : QV, Q (.dat (f a)) μ → el ρ' μ Q)) → Q ((as.filter p).map f) μ → compV ck tg ts el ρ (as.map g) μ Q
  | [], Q, _, q => ⟨hc, q⟩
  | a :: as, Q, h, q => by
    obtain ⟨ρ', e, h1, h2⟩ := h a List.mem_cons_self
    have ih := fun {Q : QD} => compV_map (as := as) (Q := Q) hc fun y hy => h y (List.mem_cons_of_mem _ hy)
    refine ⟨hc, ?_⟩
    rw [e]
    refine h1 _ ?_
    cases z : p a with
    | true =>
      rw [if_pos rfl]
      refine h2 z _ ?_
      show opt (some (f a, μ)) _
      refine ih ?_
      rw [List.filter_cons_of_pos z, List.map_cons] at q
      exact q
    | false =>
      rw [if_neg Bool.false_ne_true]
      refine ih ?_
      rw [List.filter_cons_of_neg (by rw [z]; exact Bool.false_ne_true)] at q
      exact q
inductive All2 {α β : Type} (R : α → β → Prop) : List α → List β → Prop
  | nil : All2 R [] []
  | cons {a : α} {b : β} {as : List α} {bs : List β} : R a b → All2 R as bs → All2 R (a :: as) (b :: bs)
theorem All2.length {α β : Type} {R : α → β → Prop} : ∀ {as : List α} {bs : List β}, All2 R as bs → as.length = bs.length
  | _, _, .nil => rfl
  | _, _, .cons _ r => congrArg (· + 1) r.length
theorem All2.map {α β γ : Type} {R : α → β → Prop} {f : β → γ} {g : α → γ} (h : ∀ a b, R a b → f b = g a) : ∀ {as : List α} {bs : List β}, All2 R as bs → bs.map f = as.map g
  | _, _, .nil => rfl
  | _, _, .cons q r => by rw [List.map_cons, List.map_cons, h _ _ q, r.map h]
theorem All2.all {α β : Type} {R : α → β → Prop} {P : β → Prop} (h : ∀ a b, R a b → P b) : ∀ {as : List α} {bs : List β}, All2 R as bs → ∀ b ∈ bs, P b
  | _, _, .nil, _, hb => by cases hb
  | _, _, .cons q r, b, hb => by
    rcases List.mem_cons.mp hb with rfl | hb
    · exact h _ _ q
    · exact r.all h b hb
/-- a comprehension whose items move the store -/
theorem compL_st {tg : D → Rho → Option Rho} {ts : Rho → Mu → QB → Prop} {el : Rho → Mu → QV → Prop} {ρ : Rho} {α β : Type} {g : α → D} {h : β → D} {R : α → β → Prop} {P : Mu → Prop} :
    ∀ {as : List α} {μ : Mu} {Q : QD}, P μ → (∀ a ∈ as, ∀ μ, P μ → ∃ ρ', tg (g a) ρ = some ρ' ∧ (∀ Q : QB, Q true μ → ts ρ' μ Q) ∧ ∀ Q : QV, (∀ b μ', R a b → P μ' → Q (.dat (h b)) μ') → el ρ' μ Q) → (∀ bs μ', All2 R as bs → P μ' → Q (bs.map h) μ') → compL tg ts el ρ (as.map g) μ Q
  | [], μ, Q, hP, _, q => q [] μ .nil hP
  | a :: as, μ, Q, hP, hh, q => by
    obtain ⟨ρ', e, h1, h2⟩ := hh a List.mem_cons_self μ hP
    show opt (tg (g a) ρ) _
    rw [e]
    refine h1 _ ?_
    rw [if_pos rfl]
    refine h2 _ fun b μ' r p => ?_
    show opt (some (h b, μ')) _
    exact compL_st p (fun a ha => hh a (List.mem_cons_of_mem _ ha)) fun bs μ2 r2 p2 => q (b :: bs) μ2 (.cons r r2) p2
@[simp] theorem filt_tt {α : Type} {l : List α} : l.filter (fun _ => true) = l := List.filter_eq_self.mpr fun _ _ => rfl
end DL

namespace DL
open PySem PySem.Spec PyProof.Rows L2

def S_Both_getitem : Spc where
  run := fun rs μ Q X => ∃ (ps : Ps) (d : D), rs = [.dat (both (ps.map pr)), .dat d] ∧ plainD d ∧ (isName d = false → X ⟨"NoName", [("name", d)]⟩ μ) ∧ ∀ x, d = .str x → isName d = true → Q (.dat (.str (bsrc ps x))) μ
  mono := fun rs μ Q Q' X X' ⟨ps, d, h1, h2, h3, h4⟩ f g => ⟨ps, d, h1, h2, fun a => g _ _ (h3 a), fun x a b => f _ _ (h4 x a b)⟩
def N_Both_getitem : List Str := ["self", "x", "name", "y"]
def B_Both_getitem_0 : S :=
    (.seq (.ite (.v (.cmp .eq (.var 2) (.var 1))) (.seq (.ret (.var 3))
    .skip)
    .skip)
    .skip)
def A_Both_getitem : S :=
    (.seq (.ite (.not (.v (.call "is_name" S_is_name (.cons (.var 1) .nil)))) (.seq (.rse "NoName" ["name"] (.cons (.var 1) .nil))
    .skip)
    .skip)
    (.seq (.forr (.tp [2, 3]) (.seq (.fld (.var 0) "Both" "kept_pairs")) B_Both_getitem_0)
    (.seq (.ret (.var 1))
    .skip)))
theorem find_loop {a0 : Option RV} {x : Str} {K : Kt} {μ : Mu} {P : Str → Prop} (hr : ∀ y, P y → K.rt (.dat (.str y)) μ) (hn : ∀ o2 o3, P x → K.nx [a0, some (.dat (.str x)), o2, o3] μ) :
    ∀ (ps : Ps) (o2 o3 : Option RV), P (bsrc ps x) → forL (tgD (.tp [2, 3])) (fun ρ μ K => wpS B_Both_getitem_0 ρ μ K) K (ps.map pr) [a0, some (.dat (.str x)), o2, o3] μ
  | [], o2, o3, h => hn o2 o3 h
  | (a, b) :: ps, o2, o3, h => by
    refine forL_cons (ρ' := [a0, some (.dat (.str x)), some (.dat (.str a)), some (.dat (.str b))]) rfl fun K' k1 k2 k3 k4 k5 => ?_
    unfold B_Both_getitem_0
    simp [↓wpS, ↓wpT, ↓wpE, ↓wpA, ↓wpI, ↓opt, ne_str, k1, k4]
    unfold bsrc at h
    by_cases q : a = x
    · rw [if_pos q]; rw [if_pos (by simpa using q)] at h; exact hr _ h
    · rw [if_neg q]; rw [if_neg (by simpa using q)] at h; exact find_loop hr hn ps _ _ h
theorem w_Both_getitem : ∀ rs μ Q X, S_Both_getitem.run rs μ Q X → wpS A_Both_getitem (rs.map some ++ List.replicate (N_Both_getitem.length - rs.length) none) μ (fin false μ.length Q X) := by
  rintro rs μ Q X ⟨ps, d, rfl, hp, hX, hQ⟩
  have tk : μ.take μ.length = μ := List.take_length
  unfold A_Both_getitem
  simp [↓wpS, ↓wpT, ↓wpE, ↓wpA, ↓wpI, ↓opt, N_Both_getitem, both, List.lookup, seqD]
  refine ⟨hp, ?_⟩
  cases q : isName d with
  | false =>
    simp [tk]
    exact hX q
  | true =>
    cases d with
    | str x =>
      simp
      refine find_loop (P := fun y => Q (.dat (.str y)) μ) (fun y h => ?_) (fun _ _ h => ?_) ps none none (hQ x rfl q)
      · simpa [tk] using h
      · simpa [tk] using h
    | _ => cases q
def hasX (ps : Ps) : D → Bool
  | .str x => ps.any fun p => p.1 == x
  | _ => false
def S_Both_contains : Spc where
  run := fun rs μ Q _ => ∃ (ps : Ps) (d : D), rs = [.dat (both (ps.map pr)), .dat d] ∧ plainD d ∧ Q (.dat (.bl (hasX (ps.filter mv) d))) μ
  mono := fun rs μ Q Q' X X' ⟨ps, d, h1, h2, h3⟩ f g => ⟨ps, d, h1, h2, f _ _ h3⟩
def N_Both_contains : List Str := ["self", "x", "pair"]
def A_Both_contains : S :=
    (.seq (.ret (.bi .any (.ref (.lc (.and (.isi (.var 1) .str) (.one (.cmp .eq (.ix (.var 2) (.cst (.int 0))) (.var 1)))) (.nm 2) (.seq (.meth (.var 0) "Both" "moving" S_Both_moving .nil)) .tt) .nil)))
    .skip)
theorem w_Both_contains : ∀ rs μ Q X, S_Both_contains.run rs μ Q X → wpS A_Both_contains (rs.map some ++ List.replicate (N_Both_contains.length - rs.length) none) μ (fin false μ.length Q X) := by
  rintro rs μ Q X ⟨ps, d, rfl, hp, hQ⟩
  unfold A_Both_contains
  simp [↓wpS, ↓wpT, ↓wpE, ↓wpA, ↓wpI, ↓opt, N_Both_contains, seqD]
  refine compL_map (p := fun _ => true) (f := fun q => .bl (hasX [q] d)) (fun q hq => ⟨_, rfl, fun _ q => q, fun _ Q' q => ?_⟩) ?_
  · cases d <;> first | (cases hp.1; done) | skip
    all_goals simp [wipeR, Tg.slots, pr, ne_str, isi_str hp.1]
    all_goals simpa [hasX] using q
  · rw [filt_tt]
    have e : (ps.filter mv).map (fun q => D.bl (hasX [q] d)) = ((ps.filter mv).map fun q => hasX [q] d).map D.bl := by rw [List.map_map]; rfl
    rw [e, bls_map]
    simp only [Option.map_some]
    have e2 : (((ps.filter mv).map fun q => hasX [q] d).any id) = hasX (ps.filter mv) d := by
      rw [List.any_map]
      cases d <;> simp [hasX]
    rw [e2]
    simpa using hQ
section
variable {μ : Mu} {Q : QV} {X : QX} {ps : Ps} {x : Str} {d : D}
theorem run_get (h : Nm x) : S_Both_getitem.run [.dat (both (ps.map pr)), .dat (.str x)] μ Q X ↔ Q (.dat (.str (bsrc ps x))) μ := by
  constructor
  · rintro ⟨qs, d, e, a, b, c⟩
    simp at e
    obtain ⟨rfl, rfl⟩ := e
    exact c x rfl (name_ok h)
  · intro q
    exact ⟨ps, _, rfl, h.plain, fun z => absurd z (by rw [name_ok h]; simp), fun y e _ => by cases e; exact q⟩
@[simp] theorem run_has : S_Both_contains.run [.dat (both (ps.map pr)), .dat d] μ Q X ↔ plainD d ∧ Q (.dat (.bl (hasX (ps.filter mv) d))) μ := by
  constructor
  · rintro ⟨qs, e, h, a, b⟩
    simp at h
    obtain ⟨rfl, rfl⟩ := h
    exact ⟨a, b⟩
  · exact fun ⟨a, b⟩ => ⟨_, _, rfl, a, b⟩
end
end DL

namespace DL
open PySem PySem.Spec PyProof.Rows L2

def S_behind : Spc where
  run := fun rs μ Q _ => ∃ ps qs : Ps, rs = [.dat (both (ps.map pr)), .dat (both (qs.map pr))] ∧ PsN ps ∧ PsN qs ∧ ps.length + qs.length ≤ 1000 ∧ Q (.dat (.lst ((bhd ps qs).map pr))) μ
  mono := fun rs μ Q Q' X X' ⟨ps, qs, h1, h2, h3, h4, h5⟩ f g => ⟨ps, qs, h1, h2, h3, h4, f _ _ h5⟩
def N_behind : List Str := ["one", "other", "found", "x", "pair"]
def B_behind_0 : S :=
    (.seq (.ite (.v (.cmp .nin (.var 3) (.lcV (.ix (.var 4) (.cst (.int 0))) (.nm 4) (.var 2) .tt))) (.seq (.exp (.app (.var 2) (.tup (.cons (.var 3) (.cons (.ow .ix (.var 0) (.ow .ix (.var 1) (.var 3) "Both" S_Both_getitem) "Both" S_Both_getitem) .nil)))))
    .skip)
    .skip)
    .skip)
def A_behind : S :=
    (.seq (.set 2 (.lstO .nil))
    (.seq (.forr (.nm 3) (.seq (.bin .add (.lc (.ix (.var 4) (.cst (.int 0))) (.nm 4) (.seq (.meth (.var 0) "Both" "pairs" S_Both_pairs .nil)) .tt) (.lc (.ix (.var 4) (.cst (.int 0))) (.nm 4) (.seq (.meth (.var 1) "Both" "pairs" S_Both_pairs .nil)) .tt))) B_behind_0)
    (.seq (.ret (.var 2))
    .skip)))

theorem firsts {ρ : Rho} {μ : Mu} {ps : Ps} {k : Nat} {Q : QD} (hk : k < ρ.length) (h : Q ((xsOf ps).map .str) μ) :
    compL (tgD (.nm k)) (fun ρ' μ' Q' => wpT .tt ρ' μ' Q' fun _ _ => False) (fun ρ' μ' Q' => wpE (.ix (.var k) (.cst (.int 0))) ρ' μ' Q' fun _ _ => False) ρ (ps.map pr) μ Q := by
  refine compL_map (p := fun _ => true) (f := fun p => .str p.1) (fun p hp => ⟨_, rfl, fun Q q => q, fun _ Q' q => ?_⟩) ?_
  · simp [↓wpE, ↓opt, hk, pr]
    exact q
  · rw [filt_tt]
    unfold xsOf at h
    rw [List.map_map] at h
    exact h
theorem firstsV {ck : Mu → Prop} {ρ : Rho} {μ : Mu} {ps : Ps} {k : Nat} {Q : QD} (hc : ck μ) (hk : k < ρ.length) (h : Q ((xsOf ps).map .str) μ) :
    compV ck (tgD (.nm k)) (fun ρ' μ' Q' => wpT .tt ρ' μ' Q' fun _ _ => False) (fun ρ' μ' Q' => wpE (.ix (.var k) (.cst (.int 0))) ρ' μ' Q' fun _ _ => False) ρ (ps.map pr) μ Q := by
  refine compV_map (p := fun _ => true) (f := fun p => .str p.1) hc (fun p hp => ⟨_, rfl, fun Q q => q, fun _ Q' q => ?_⟩) ?_
  · simp [↓wpE, ↓opt, hk, pr]
    exact q
  · rw [filt_tt]
    unfold xsOf at h
    rw [List.map_map] at h
    exact h
def bhF (ps qs : Ps) (x : Str) : Str × Str := (x, bsrc ps (bsrc qs x))
theorem bh_loop {ps qs : Ps} {μ : Mu} {K : Kt} (hq : ∀ p ∈ qs, Nm p.2) {o4 : Option RV} :
    ∀ (xs : List Str) (found : Ps) (o3 : Option RV), (∀ x ∈ xs, Nm x) → found.length + xs.length ≤ 1000 →
      (∀ o3, K.nx [some (.dat (both (ps.map pr))), some (.dat (both (qs.map pr))), some (.loc μ.length), o3, o4] (μ ++ [.lst ((found ++ (fresh xs (xsOf found)).map (bhF ps qs)).map pr)])) →
      forL (tgD (.nm 3)) (fun ρ μ K => wpS B_behind_0 ρ μ K) K (xs.map .str) [some (.dat (both (ps.map pr))), some (.dat (both (qs.map pr))), some (.loc μ.length), o3, o4] (μ ++ [.lst (found.map pr)])
  | [], found, o3, _, _, h => by
    have := h o3
    show K.nx _ _
    simpa [fresh] using this
  | x :: xs, found, o3, hx, hl, h => by
    have nx : Nm x := hx x List.mem_cons_self
    have nq : Nm (bsrc qs x) := bsrc_P hq nx
    have ih := bh_loop (ps := ps) (μ := μ) (K := K) hq (o4 := o4) xs
    refine forL_cons rfl fun K' k1 k2 k3 k4 k5 => ?_
    unfold B_behind_0
    simp [↓wpS, ↓wpT, ↓wpE, ↓wpA, ↓wpI, ↓opt, bp0, wipeR, Tg.slots]
    refine firstsV (by simp [bp0]) (by simp) ?_
    simp [in_strs, bp0, bs0]
    have e : fresh (x :: xs) (xsOf found) = if (xsOf found).contains x then fresh xs (xsOf found) else x :: fresh xs (xsOf found ++ [x]) := rfl
    rw [e] at h
    by_cases c : x ∈ xsOf found
    · rw [if_pos (by simpa using c)] at h
      simp [c, k1]
      exact ih found _ (fun y hy => hx y (List.mem_cons_of_mem _ hy)) (by simp at hl; omega) h
    · rw [if_neg (by simpa using c)] at h
      simp [c, k1, run_get nx, run_get nq]
      refine ⟨by simp at hl; omega, ?_⟩
      have e2 : found.map pr ++ [D.tup [D.str x, D.str (bsrc ps (bsrc qs x))]] = (found ++ [bhF ps qs x]).map pr := by simp [bhF, pr]
      rw [e2]
      refine ih _ _ (fun y hy => hx y (List.mem_cons_of_mem _ hy)) (by simp at hl ⊢; omega) fun o3 => ?_
      have := h o3
      have e3 : xsOf (found ++ [bhF ps qs x]) = xsOf found ++ [x] := by simp [xsOf, bhF]
      rw [e3]
      simpa using this
theorem w_behind : ∀ rs μ Q X, S_behind.run rs μ Q X → wpS A_behind (rs.map some ++ List.replicate (N_behind.length - rs.length) none) μ (fin false μ.length Q X) := by
  rintro rs μ Q X ⟨ps, qs, rfl, hp, hq, hl, hQ⟩
  unfold A_behind
  simp [↓wpS, ↓wpT, ↓wpE, ↓wpA, ↓wpI, ↓opt, N_behind, wipeR, Tg.slots, seqD]
  refine firsts (by simp) (firsts (by simp) ?_)
  have hz : ((xsOf ps).map D.str).length + ((xsOf qs).map D.str).length ≤ 16777216 := by simp [xsOf]; omega
  simp only [vw_dat, Option.map_some, add_lst hz, fz_dat]
  rw [← List.map_append]
  refine bh_loop (fun p h => (hq p h).2) (xsOf ps ++ xsOf qs) [] none ?_ (by simp [xsOf]; omega) fun o3 => ?_
  · intro x hx
    rcases List.mem_append.mp hx with h | h
    · obtain ⟨p, h', rfl⟩ := List.mem_map.mp h; exact (hp p h').1
    · obtain ⟨p, h', rfl⟩ := List.mem_map.mp h; exact (hq p h').1
  · simp [bp0, bs0, bt0]
    unfold bhd at hQ
    simpa [finQ, bp0, bs0, bt0, opt, xsOf, bhF, Function.comp_def] using hQ
section
variable {μ : Mu} {Q : QV} {X : QX} {ps qs : Ps} {ds : List D}
theorem run_behind (h1 : PsN ps) (h2 : PsN qs) (h3 : ps.length + qs.length ≤ 1000) : S_behind.run [.dat (both (ps.map pr)), .dat (both (qs.map pr))] μ Q X ↔ Q (.dat (.lst ((bhd ps qs).map pr))) μ := by
  constructor
  · rintro ⟨a, b, e, _, _, _, q⟩
    simp at e
    obtain ⟨rfl, rfl⟩ := e
    exact q
  · exact fun q => ⟨_, _, rfl, h1, h2, h3, q⟩
end
/-- a both may be made of these pairs -/
theorem wrong_nd : ∀ (ps : Ps) (w : List Str) (i : Nat), PsN ps → (xsOf ps).Nodup → (∀ x ∈ xsOf ps, x ∉ w) → wrongAt (ps.map pr) w i = none
  | [], _, _, _, _, _ => rfl
  | (x, y) :: ps, w, i, h, nd, hw => by
    have hp : isPair (pr (x, y)) = true := by
      show (isName (.str x) && isName (.str y)) = true
      rw [name_ok (h _ List.mem_cons_self).1, name_ok (h _ List.mem_cons_self).2]; rfl
    simp only [xsOf, List.map_cons, List.nodup_cons] at nd
    have hx : x ∉ w := hw x (by simp [xsOf])
    have ih := wrong_nd ps (w ++ [x]) (i + 1) (fun p hp => h p (List.mem_cons_of_mem _ hp)) nd.2 fun z hz q => by
      rcases List.mem_append.mp q with q | q
      · exact hw z (List.mem_cons_of_mem _ hz) q
      · have : z = x := by simpa using q
        exact nd.1 (this ▸ hz)
    simp only [List.map_cons, wrongAt, hp, if_true]
    simp [pr, hx]
    exact ih
theorem pair_prs {ps : Ps} (h : PsN ps) : ∀ d ∈ ps.map pr, pairD d := by
  intro d hd
  obtain ⟨p, hp, rfl⟩ := List.mem_map.mp hd
  refine ⟨⟨rfl, fun z e => nomatch e⟩, fun a b e => ?_⟩
  cases e
  exact ⟨(h p hp).1.plain, (h p hp).2.plain⟩
theorem both_mk {ps : Ps} {μ : Mu} {Q : QV} {X : QX} (h : PsN ps) (nd : (xsOf ps).Nodup) (hl : ps.length ≤ 12) (q : Q (.dat (both (ps.map pr))) μ) : S_Both.run ((ps.map pr).map .dat) μ Q X :=
  both_ok (pair_prs h) (by simp; omega) (fun z => by simp at z; omega) (fun _ i e => by rw [wrong_nd ps [] 0 h nd (by simp)] at e; cases e) fun _ _ => q
theorem both_many {ps : Ps} {μ : Mu} {Q : QV} {X : QX} (h : PsN ps) (hl : 12 < ps.length) (hz : ps.length < 1000000) (q : X ⟨"TooMany", [("limit", .int 12)]⟩ μ) : S_Both.run ((ps.map pr).map .dat) μ Q X :=
  both_ok (pair_prs h) (by simpa using hz) (fun _ => q) (fun z => by simp at z; omega) fun z => by simp at z; omega
def S_Both_or : Spc where
  run := fun rs μ Q X => ∃ ps qs : Ps, rs = [.dat (both (ps.map pr)), .dat (both (qs.map pr))] ∧ PsN ps ∧ PsN qs ∧ ps.length + qs.length ≤ 1000 ∧ ((bhd ps qs).length ≤ 12 → Q (.dat (both ((bhd ps qs).map pr))) μ) ∧ (12 < (bhd ps qs).length → X ⟨"TooMany", [("limit", .int 12)]⟩ μ)
  mono := fun rs μ Q Q' X X' ⟨ps, qs, h1, h2, h3, h4, h5, h6⟩ f g => ⟨ps, qs, h1, h2, h3, h4, fun a => f _ _ (h5 a), fun a => g _ _ (h6 a)⟩
def N_Both_or : List Str := ["self", "other", "pairs"]
def A_Both_or : S :=
    (.seq (.ite (.not (.v (.isiO (.var 1) "Both"))) (.seq (.ret .bad)
    .skip)
    .skip)
    (.seq (.set 2 (.call "behind" S_behind (.cons (.var 0) (.cons (.var 1) .nil))))
    (.seq (.ret (.call "Both" S_Both (.star (.var 2) .nil)))
    .skip)))

theorem w_Both_or : ∀ rs μ Q X, S_Both_or.run rs μ Q X → wpS A_Both_or (rs.map some ++ List.replicate (N_Both_or.length - rs.length) none) μ (fin false μ.length Q X) := by
  rintro rs μ Q X ⟨ps, qs, rfl, hp, hq, hl, hQ, hX⟩
  unfold A_Both_or
  simp [↓wpS, ↓wpT, ↓wpE, ↓wpA, ↓wpI, ↓opt, N_Both_or]
  rw [run_behind hp hq hl]
  by_cases c : (bhd ps qs).length ≤ 12
  · simpa using both_mk (Q := (fin false μ.length Q X).rt) (bhd_P hp hq) bhd_nd c (by simpa using hQ c)
  · have := @bhd_len ps qs
    simpa using both_many (Q := (fin false μ.length Q X).rt) (X := fun x m => (fin false μ.length Q X).ex x [] m) (bhd_P hp hq) (by omega) (by omega) (by simpa using hX (by omega))
section
variable {μ : Mu} {Q : QV} {X : QX} {ps qs : Ps} {ds : List D}
theorem run_or (h1 : PsN ps) (h2 : PsN qs) (h3 : ps.length + qs.length ≤ 1000) (h4 : (bhd ps qs).length ≤ 12) : S_Both_or.run [.dat (both (ps.map pr)), .dat (both (qs.map pr))] μ Q X ↔ Q (.dat (both ((bhd ps qs).map pr))) μ := by
  constructor
  · rintro ⟨a, b, e, _, _, _, q, _⟩
    simp at e
    obtain ⟨rfl, rfl⟩ := e
    exact q h4
  · exact fun q => ⟨_, _, rfl, h1, h2, h3, fun _ => q, fun z => by omega⟩
end
def S_Both_ror : Spc where
  run := fun rs μ Q X => ∃ (qs : Ps) (ds : List D), rs = [.dat (both (qs.map pr)), .dat (.lst ds)] ∧ PsN qs ∧ qs.length ≤ 900 ∧ (∀ d ∈ ds, pairD d) ∧ ds.length ≤ 12 ∧
    (∀ i, wrongAt ds [] 0 = some i → X ⟨"BadBoth", [("at", .int i)]⟩ μ) ∧
    (wrongAt ds [] 0 = none → ∃ ps : Ps, ds = ps.map pr ∧ PsN ps ∧ ((bhd ps qs).length ≤ 12 → Q (.dat (both ((bhd ps qs).map pr))) μ) ∧ (12 < (bhd ps qs).length → X ⟨"TooMany", [("limit", .int 12)]⟩ μ))
  mono := fun rs μ Q Q' X X' ⟨qs, ds, h1, h2, h3, h4, h5, h6, h7⟩ f g => ⟨qs, ds, h1, h2, h3, h4, h5, fun i a => g _ _ (h6 i a), fun a => let ⟨ps, k1, k2, k3, k4⟩ := h7 a; ⟨ps, k1, k2, fun a => f _ _ (k3 a), fun a => g _ _ (k4 a)⟩⟩
def N_Both_ror : List Str := ["self", "other"]
def A_Both_ror : S :=
    (.seq (.ite (.not (.v (.isi (.var 1) .list))) (.seq (.ret .bad)
    .skip)
    .skip)
    (.seq (.ret (.ow .or (.call "Both" S_Both (.star (.var 1) .nil)) (.var 0) "Both" S_Both_or))
    .skip))

theorem w_Both_ror : ∀ rs μ Q X, S_Both_ror.run rs μ Q X → wpS A_Both_ror (rs.map some ++ List.replicate (N_Both_ror.length - rs.length) none) μ (fin false μ.length Q X) := by
  rintro rs μ Q X ⟨qs, ds, rfl, hq, hl, hd, hz, hX, hQ⟩
  unfold A_Both_ror
  have e1 : isiD .list (.lst ds) = some true := rfl
  simp [↓wpS, ↓wpT, ↓wpE, ↓wpA, ↓wpI, ↓opt, N_Both_ror, e1]
  refine both_ok hd (by omega) (fun z => by omega) (fun _ i e => by simpa using hX i e) fun _ e => ?_
  obtain ⟨ps, rfl, hp, k1, k2⟩ := hQ e
  simp
  exact ⟨ps, qs, rfl, hp, hq, by simp at hz; omega, fun a => by simpa using k1 a, fun a => by simpa using k2 a⟩
section
variable {μ : Mu} {Q : QV} {X : QX} {ps qs : Ps} {ds : List D}
theorem run_ror (h1 : PsN ps) (nd : (xsOf ps).Nodup) (h2 : PsN qs) (h0 : qs.length ≤ 900) (h3 : ps.length ≤ 12) (h4 : (bhd ps qs).length ≤ 12) (q : Q (.dat (both ((bhd ps qs).map pr))) μ) : S_Both_ror.run [.dat (both (qs.map pr)), .dat (.lst (ps.map pr))] μ Q X :=
  ⟨qs, _, rfl, h2, h0, pair_prs h1, by simpa using h3, fun i e => (by rw [wrong_nd ps [] 0 h1 nd (by simp)] at e; cases e), fun _ => ⟨ps, rfl, h1, fun _ => q, fun z => by omega⟩⟩
end
/-- the names that both of them move -/
def andS (ps qs : Ps) : List Str := sortS (xsOf ((ps.filter mv).filter fun p => (xsOf (qs.filter mv)).contains p.1))
def S_Both_and : Spc where
  run := fun rs μ Q X => ∃ ps qs : Ps, rs = [.dat (both (ps.map pr)), .dat (both (qs.map pr))] ∧ PsN ps ∧ Q (.dat (.lst ((andS ps qs).map .str))) μ
  mono := fun rs μ Q Q' X X' ⟨ps, qs, h1, h2, h3⟩ f g => ⟨ps, qs, h1, h2, f _ _ h3⟩
def N_Both_and : List Str := ["self", "other", "x", "y"]
def A_Both_and : S :=
    (.seq (.ite (.not (.v (.isiO (.var 1) "Both"))) (.seq (.ret .bad)
    .skip)
    .skip)
    (.seq (.ret (.bi .sorted (.ref (.lc (.bi .str (.ref (.var 2) .nil)) (.tp [2, 3]) (.seq (.meth (.var 0) "Both" "moving" S_Both_moving .nil)) (.v (.ow .inn (.var 2) (.var 1) "Both" S_Both_contains))) .nil)))
    .skip))

theorem strs_map : ∀ xs : List Str, strsD (xs.map D.str) = some xs
  | [] => rfl
  | x :: xs => by show (strsD (xs.map D.str)).map (x :: ·) = _; rw [strs_map xs]; rfl
theorem has_xs {ps : Ps} {x : Str} : hasX ps (.str x) = (xsOf ps).contains x := by
  show (ps.any fun p => p.1 == x) = _
  unfold xsOf
  rw [List.contains_eq_any_beq, List.any_map]
  congr 1
  funext p
  show (p.1 == x) = (x == p.1)
  rw [Bool.eq_iff_iff, beq_iff_eq, beq_iff_eq]
  exact eq_comm
theorem w_Both_and : ∀ rs μ Q X, S_Both_and.run rs μ Q X → wpS A_Both_and (rs.map some ++ List.replicate (N_Both_and.length - rs.length) none) μ (fin false μ.length Q X) := by
  rintro rs μ Q X ⟨ps, qs, rfl, hp, hQ⟩
  unfold A_Both_and
  simp [↓wpS, ↓wpT, ↓wpE, ↓wpA, ↓wpI, ↓opt, N_Both_and, wipeR, Tg.slots, seqD]
  refine compL_map (p := fun p => (xsOf (qs.filter mv)).contains p.1) (f := fun p => .str p.1) (fun p hq => ⟨_, rfl, fun Q q => ?_, fun _ Q' q => ?_⟩) ?_
  · have np : Nm p.1 := (hp p (List.mem_filter.mp hq).1).1
    simp [has_xs, np.plain]
    simpa using q
  · simp
    exact q
  · have e : (((ps.filter mv).filter fun p => (xsOf (qs.filter mv)).contains p.1).map fun p => D.str p.1) = (xsOf ((ps.filter mv).filter fun p => (xsOf (qs.filter mv)).contains p.1)).map D.str := by unfold xsOf; rw [List.map_map]; rfl
    rw [e]
    simp only [strs_map, Option.map_some]
    unfold andS at hQ
    simpa using hQ
theorem run_and {ps qs : Ps} {μ : Mu} {Q : QV} {X : QX} (h : PsN ps) : S_Both_and.run [.dat (both (ps.map pr)), .dat (both (qs.map pr))] μ Q X ↔ Q (.dat (.lst ((andS ps qs).map .str))) μ := by
  constructor
  · rintro ⟨_, _, e, _, q⟩
    simp at e
    obtain ⟨rfl, rfl⟩ := e
    exact q
  · exact fun q => ⟨_, _, rfl, h, q⟩
def S_Both_eq : Spc where
  run := fun rs μ Q X => ∃ ps qs : Ps, rs = [.dat (both (ps.map pr)), .dat (both (qs.map pr))] ∧ PsN ps ∧ PsN qs ∧ ∃ z, eqD (.lst (sortK ((ps.filter mv).map pr))) (.lst (sortK ((qs.filter mv).map pr))) = some z ∧ Q (.dat (.bl z)) μ
  mono := fun rs μ Q Q' X X' ⟨ps, qs, h1, h2, h3, z, h4, h5⟩ f g => ⟨ps, qs, h1, h2, h3, z, h4, f _ _ h5⟩
def N_Both_eq : List Str := ["self", "other"]
def A_Both_eq : S :=
    (.seq (.ite (.not (.v (.isiO (.var 1) "Both"))) (.seq (.ret (.cst (.bl false)))
    .skip)
    .skip)
    (.seq (.ret (.cmp .eq (.sortK (.meth (.var 0) "Both" "moving" S_Both_moving .nil)) (.sortK (.meth (.var 1) "Both" "moving" S_Both_moving .nil))))
    .skip))

end DL

namespace DL
open PySem PySem.Spec PyProof.Rows L2

theorem sh_pr {p : Str × Str} (h1 : Nm p.1) (h2 : Nm p.2) : shD (pr p) = some (PyData.shown (.tuple [.str p.1, .str p.2])) := by
  have l1 := StrLaws.reprText_len p.1 fun c hc => by have := h1.2.2 c hc; omega
  have l2 := StrLaws.reprText_len p.2 fun c hc => by have := h2.2.2 c hc; omega
  have z1 := h1.2.1
  have z2 := h2.2.1
  have e : PyData.shown (.tuple [.str p.1, .str p.2]) = (("(" : Str) ++ (reprText p.1 ++ ", " ++ reprText p.2)) ++ (")" : Str) := by
    simp only [PyData.shown, PyData.shownAll]
    rfl
  have hl : (PyData.shown (.tuple [.str p.1, .str p.2])).length ≤ 16777216 := by
    rw [e]
    simp only [len_app]
    have a1 : Str.length "(" = 1 := rfl
    have a2 : Str.length ")" = 1 := rfl
    have a3 : Str.length ", " = 2 := rfl
    omega
  unfold shD
  have e2 : pdD (pr p) = some (.tuple [.str p.1, .str p.2]) := rfl
  rw [e2]
  simp only [Option.bind_some]
  rw [if_pos]
  refine ⟨rfl, rfl, ?_, hl⟩
  simp [PyData.depth, PyData.depthAll]
theorem keyT_pr {p : Str × Str} (h1 : Nm p.1) (h2 : Nm p.2) : isKeyT (pr p) = true := by
  show (shD (pr p)).isSome = true
  rw [sh_pr h1 h2]; rfl
theorem keys_pr {ps : Ps} (h : PsN ps) : (ps.map pr).all isKeyT = true := by
  rw [List.all_eq_true]
  intro d hd
  obtain ⟨p, hp, rfl⟩ := List.mem_map.mp hd
  exact keyT_pr (h p hp).1 (h p hp).2
theorem w_Both_eq : ∀ rs μ Q X, S_Both_eq.run rs μ Q X → wpS A_Both_eq (rs.map some ++ List.replicate (N_Both_eq.length - rs.length) none) μ (fin false μ.length Q X) := by
  rintro rs μ Q X ⟨ps, qs, rfl, hp, hq, z, hz, hQ⟩
  have k1 := keys_pr (ps := ps.filter mv) fun p h => hp p (List.mem_filter.mp h).1
  have k2 := keys_pr (ps := qs.filter mv) fun p h => hq p (List.mem_filter.mp h).1
  unfold A_Both_eq
  simp only [List.all_eq_true] at k1 k2
  simp [↓wpS, ↓wpT, ↓wpE, ↓wpA, ↓wpI, ↓opt, N_Both_eq, hz]
  refine .inl ⟨?_, ?_, by simpa using hQ⟩
  · rintro x a b h h' rfl; exact k1 _ (List.mem_map.mpr ⟨(a, b), by simp [h, h'], rfl⟩)
  · rintro x a b h h' rfl; exact k2 _ (List.mem_map.mpr ⟨(a, b), by simp [h, h'], rfl⟩)
theorem gd_prs {ps : Ps} (h : PsN ps) : ∀ d ∈ ps.map pr, gd d := by
  intro d hd
  obtain ⟨p, hp, rfl⟩ := List.mem_map.mp hd
  refine gd_strs (xs := [p.1, p.2]) fun x hx => ?_
  simp at hx
  rcases hx with rfl | rfl
  · exact (h p hp).1.2.2
  · exact (h p hp).2.2.2
theorem eqK_self {ps : Ps} (h : PsN ps) : eqD (.lst (sortK (ps.map pr))) (.lst (sortK (ps.map pr))) = some true := by
  refine eqD_self fun x hx => ?_
  exact gd_prs h x ((List.mergeSort_perm _ _).mem_iff.mp hx)
theorem PsN.moving {ps : Ps} (h : PsN ps) : PsN (ps.filter mv) := fun p q => h p (List.mem_filter.mp q).1
theorem run_eq {ps qs : Ps} {μ : Mu} {Q : QV} {X : QX} (h : PsN ps) (h' : PsN qs) (e : ps.filter mv = qs.filter mv) (q : Q (.dat (.bl true)) μ) : S_Both_eq.run [.dat (both (ps.map pr)), .dat (both (qs.map pr))] μ Q X :=
  ⟨ps, qs, rfl, h, h', true, by rw [← e]; exact eqK_self h.moving, q⟩
end DL

namespace DL
open PySem PySem.Spec PyProof.Rows L2
abbrev Dc := List (Key × D)
instance decKey (k : Key) (l : List Key) : Decidable (k ∈ l) := @List.instDecidableMemOfLawfulBEq Key instBEqOfDecidableEq inferInstance k l
def keys (kvs : Dc) : List Key := kvs.map (·.1)
theorem lk_none {kvs : Dc} {k : Key} (h : k ∉ keys kvs) : lk kvs k = none := by
  induction kvs with
  | nil => rfl
  | cons p r ih =>
    obtain ⟨j, d⟩ := p
    have h1 : ¬ j = k := fun e => h (by subst e; exact List.mem_cons_self)
    rw [lk_cons, if_neg h1]
    exact ih fun z => h (List.mem_cons_of_mem _ z)
theorem any_key {kvs : Dc} {k : Key} : (kvs.any fun kv => decide (kv.1 = k)) = decide (k ∈ keys kvs) := by
  induction kvs with
  | nil => rfl
  | cons p r ih =>
    obtain ⟨j, d⟩ := p
    rw [List.any_cons, ih]
    unfold keys
    rw [List.map_cons]
    by_cases e : j = k
    · subst e; simp
    · simp only [e, decide_false, Bool.false_or, List.mem_cons]
      rw [decide_eq_decide]
      constructor
      · exact .inr
      · rintro (z | z)
        · exact absurd z.symm e
        · exact z
theorem pk_new {kvs : Dc} {k : Key} {d : D} (h : k ∉ keys kvs) : pk kvs k d = kvs ++ [(k, d)] := by
  unfold pk
  rw [any_key, decide_eq_false h]
  rfl
theorem keys_pk {kvs : Dc} {k : Key} {d : D} : keys (pk kvs k d) = if k ∈ keys kvs then keys kvs else keys kvs ++ [k] := by
  unfold pk
  rw [any_key]
  by_cases h : k ∈ keys kvs
  · rw [decide_eq_true h, if_pos rfl, if_pos h]
    unfold keys
    rw [List.map_map]
    apply List.map_congr_left
    intro p _
    simp only [Function.comp]
    split <;> rfl
  · rw [decide_eq_false h, if_neg Bool.false_ne_true, if_neg h]
    unfold keys
    simp
theorem nd_pk {kvs : Dc} {k : Key} {d : D} (h : (keys kvs).Nodup) : (keys (pk kvs k d)).Nodup := by
  rw [keys_pk]
  split
  · exact h
  · rename_i n
    rw [List.nodup_append]
    refine ⟨h, by simp, ?_⟩
    rintro a ha b hb rfl
    simp at hb
    subst hb
    exact n ha
theorem lk_at : ∀ {kvs : Dc} {p : Key × D}, (keys kvs).Nodup → p ∈ kvs → lk kvs p.1 = some p.2
  | (j, e) :: r, p, nd, hp => by
    have nd' : (j :: keys r).Nodup := nd
    obtain ⟨n1, n2⟩ := List.nodup_cons.mp nd'
    rw [lk_cons]
    rcases List.mem_cons.mp hp with rfl | hp
    · rw [if_pos rfl]
    · have hk : p.1 ∈ keys r := List.mem_map.mpr ⟨p, hp, rfl⟩
      rw [if_neg (fun z => n1 (by rw [z]; exact hk))]
      exact lk_at n2 hp
theorem pk_len {kvs : Dc} {k : Key} {d : D} : (pk kvs k d).length ≤ kvs.length + 1 := by
  unfold pk
  split <;> simp
def okE1 (d : D) : Prop := eqPl d d = some true
theorem hits_self {b : Dc} : ∀ {a : Dc}, (∀ p ∈ a, lk b p.1 = some p.2) → (∀ p ∈ a, okE1 p.2) → hitsD b a = some true
  | [], _, _ => rfl
  | (k, v) :: r, h1, h2 => by
    unfold hitsD
    rw [h1 _ List.mem_cons_self]
    show (eqPl v v).bind _ = _
    rw [show eqPl v v = some true from h2 _ List.mem_cons_self, Option.bind_some, hits_self (fun p hp => h1 p (List.mem_cons_of_mem _ hp)) fun p hp => h2 p (List.mem_cons_of_mem _ hp)]
    rfl
structure OkV (c : Dc) : Prop where
  nd : (keys c).Nodup
  vs : ∀ p ∈ c, okE1 p.2
theorem OkV.eq {c : Dc} (h : OkV c) : eqD (.dic c) (.dic c) = some true := by
  show eqDic c c = _
  unfold eqDic
  rw [if_pos rfl]
  exact hits_self (fun p hp => lk_at h.nd hp) h.vs
theorem lk_mem {c : Dc} {k : Key} {v : D} (h : lk c k = some v) : (k, v) ∈ c := by
  induction c with
  | nil => cases h
  | cons p r ih =>
    obtain ⟨j, e⟩ := p
    rw [lk_cons] at h
    split at h
    · rename_i q; subst q; cases h; exact List.mem_cons_self
    · exact List.mem_cons_of_mem _ (ih h)
theorem pk_mem {c : Dc} {k : Key} {v : D} {p : Key × D} (h : p ∈ pk c k v) : p.2 = v ∨ ∃ q ∈ c, p.2 = q.2 := by
  unfold pk at h
  split at h
  · obtain ⟨q, hq, e⟩ := List.mem_map.mp h
    split at e
    · subst e; exact .inl rfl
    · subst e; exact .inr ⟨_, hq, rfl⟩
  · rcases List.mem_append.mp h with q | q
    · exact .inr ⟨p, q, rfl⟩
    · simp at q; subst q; exact .inl rfl
theorem OkV.put {c : Dc} {k : Key} {v : D} (h : OkV c) (hv : okE1 v) : OkV (pk c k v) := by
  refine ⟨nd_pk h.nd, fun p hp => ?_⟩
  rcases pk_mem hp with e | ⟨q, hq, e⟩
  · rw [e]; exact hv
  · rw [e]; exact h.vs q hq

theorem lk_key {c : Dc} {k : Key} : (lk c k).isSome = true ↔ k ∈ keys c := by
  constructor
  · intro h
    obtain ⟨v, e⟩ := Option.isSome_iff_exists.mp h
    exact List.mem_map.mpr ⟨_, lk_mem e, rfl⟩
  · intro h
    cases e : lk c k with
    | some _ => rfl
    | none =>
      obtain ⟨p, hp, rfl⟩ := List.mem_map.mp h
      exfalso
      unfold lk at e
      rw [Option.map_eq_none_iff, List.find?_eq_none] at e
      exact e p hp (by simp)
theorem lk_mrg {k : Key} : ∀ {kvs k0 : Dc}, (keys kvs).Nodup → lk (mrgD k0 kvs) k = (lk kvs k).or (lk k0 k)
  | [], k0, _ => by simp [mrgD, lk]
  | (j, v) :: r, k0, nd => by
    simp only [keys, List.map_cons, List.nodup_cons] at nd
    show lk (mrgD (pk k0 j v) r) k = _
    rw [lk_mrg nd.2, lk_pk, lk_cons]
    by_cases e : k = j
    · subst e
      rw [if_pos rfl, if_pos rfl, lk_none nd.1]; rfl
    · rw [if_neg e, if_neg fun z => e z.symm]
theorem nd_mrg : ∀ {kvs k0 : Dc}, (keys k0).Nodup → (keys (mrgD k0 kvs)).Nodup
  | [], k0, h => h
  | (j, v) :: r, k0, h => nd_mrg (kvs := r) (nd_pk h)
theorem mrg_len : ∀ {kvs k0 : Dc}, (mrgD k0 kvs).length ≤ k0.length + kvs.length
  | [], k0 => Nat.le_refl _
  | (j, v) :: r, k0 => by
    show (mrgD (pk k0 j v) r).length ≤ _
    have h1 := mrg_len (kvs := r) (k0 := pk k0 j v)
    have h2 := pk_len (kvs := k0) (k := j) (d := v)
    simp only [List.length_cons]
    omega
theorem mrg_P {P : D → Prop} : ∀ {kvs k0 : Dc}, (∀ p ∈ k0, P p.2) → (∀ p ∈ kvs, P p.2) → ∀ p ∈ mrgD k0 kvs, P p.2
  | [], k0, h, _ => h
  | (j, v) :: r, k0, h, h' => by
    refine mrg_P (kvs := r) (k0 := pk k0 j v) (fun p hp => ?_) fun p hp => h' p (List.mem_cons_of_mem _ hp)
    rcases pk_mem hp with e | ⟨q, hq, e⟩
    · rw [e]; exact h' _ List.mem_cons_self
    · rw [e]; exact h q hq
theorem len_of_keys {a b : Dc} (na : (keys a).Nodup) (nb : (keys b).Nodup) (h : ∀ k, lk a k = lk b k) : a.length = b.length := by
  have e : (keys a).Perm (keys b) := by
    rw [List.perm_ext_iff_of_nodup na nb]
    intro k
    rw [← lk_key, ← lk_key, h k]
  have := e.length_eq
  simpa [keys] using this
theorem eq_dics {a b : Dc} (na : (keys a).Nodup) (nb : (keys b).Nodup) (h : ∀ k, lk a k = lk b k) (hv : ∀ p ∈ a, okE1 p.2) : eqD (.dic a) (.dic b) = some true := by
  show eqDic a b = _
  unfold eqDic
  rw [if_pos (len_of_keys na nb h)]
  exact hits_self (fun p hp => by rw [← h]; exact lk_at na hp) hv
theorem okE_int {i : Int} : okE1 (.int i) := by
  unfold okE1 eqPl
  simp [toPy, PyData.canLay0, PyData.depth, PyData.eqv]
end DL

namespace DL
open PySem PySem.Spec PyProof.Rows L2

/-- the first y of moving pairs that is no key -/
def miss (ms : Ps) (kvs : Dc) : Option Str := (ms.find? fun p => !(lk kvs (.inr p.2)).isSome).map (·.2)
def movD (kvs : Dc) (ms : Ps) (a : Dc) : Dc := ms.foldl (fun a p => pk a (.inr p.1) ((lk kvs (.inr p.2)).getD .non)) a
def callD (ps : Ps) (kvs : Dc) : Dc := mrgD (mrgD [] kvs) (movD kvs (ps.filter mv) [])
def S_Both_call : Spc where
  run := fun rs μ Q X => ∃ (ps : Ps) (kvs : Dc), rs = [.dat (both (ps.map pr)), .dat (.dic kvs)] ∧ ps.length ≤ 1000 ∧ kvs.length ≤ 1000 ∧ (∀ y, miss (ps.filter mv) kvs = some y → X ⟨"NoValue", [("name", .str y)]⟩ μ) ∧ (miss (ps.filter mv) kvs = none → Q (.dat (.dic (callD ps kvs))) μ)
  mono := fun rs μ Q Q' X X' ⟨ps, kvs, h1, h2, h3, h4, h5⟩ f g => ⟨ps, kvs, h1, h2, h3, fun y a => g _ _ (h4 y a), fun a => f _ _ (h5 a)⟩
def N_Both_call : List Str := ["self", "values", "x", "y", "moved"]
def B_Both_call_0 : S :=
    (.seq (.ite (.v (.cmp .nin (.var 3) (.var 1))) (.seq (.rse "NoValue" ["name"] (.cons (.var 3) .nil))
    .skip)
    .skip)
    .skip)
def A_Both_call : S :=
    (.seq (.forr (.tp [2, 3]) (.seq (.meth (.var 0) "Both" "moving" S_Both_moving .nil)) B_Both_call_0)
    (.seq (.set 4 (.dcO (.var 2) (.ix (.var 1) (.var 3)) (.tp [2, 3]) (.seq (.meth (.var 0) "Both" "moving" S_Both_moving .nil)) .tt))
    (.seq (.ret (.dmrg (.var 1) (.var 4)))
    .skip)))

theorem call_loop {kvs : Dc} {a0 a4 : Option RV} {μ : Mu} {K : Kt} (hx : ∀ y ρ, K.ex ⟨"NoValue", [("name", .str y)]⟩ ρ μ = K.ex ⟨"NoValue", [("name", .str y)]⟩ [] μ) : ∀ (ms : Ps) (o2 o3 : Option RV), (∀ y, miss ms kvs = some y → K.ex ⟨"NoValue", [("name", .str y)]⟩ [] μ) →
    (miss ms kvs = none → ∀ o2 o3, K.nx [a0, some (.dat (.dic kvs)), o2, o3, a4] μ) →
    forL (tgD (.tp [2, 3])) (fun ρ μ K => wpS B_Both_call_0 ρ μ K) K (ms.map pr) [a0, some (.dat (.dic kvs)), o2, o3, a4] μ
  | [], o2, o3, _, h => h rfl o2 o3
  | (x, y) :: ms, o2, o3, hm, h => by
    refine forL_cons (ρ' := [a0, some (.dat (.dic kvs)), some (.dat (.str x)), some (.dat (.str y)), a4]) rfl fun K' k1 k2 k3 k4 k5 => ?_
    unfold B_Both_call_0
    simp [↓wpS, ↓wpT, ↓wpE, ↓wpA, ↓wpI, ↓opt, k1, k5]
    cases c : lk kvs (.inr y) with
    | none =>
      simp
      rw [hx]
      exact hm y (by simp [miss, c])
    | some v =>
      simp
      refine call_loop hx ms _ _ (fun z hz => hm z ?_) fun hz => h ?_
      · simpa [miss, List.find?_cons, c] using hz
      · simpa [miss, List.find?_cons, c] using hz
theorem call_comp {kvs : Dc} {a0 a4 : Option RV} {μ : Mu} {Q : Mu → Prop} : ∀ (ms : Ps) (acc : Dc), miss ms kvs = none → acc.length + ms.length ≤ 2000 → Q (μ ++ [.dic (movD kvs ms acc)]) →
    compK (tgD (.tp [2, 3])) (fun ρ' μ' Q' => wpT .tt ρ' μ' Q' fun _ _ => False) (fun ρ' μ' Q' => wpE (.var 2) ρ' μ' Q' fun _ _ => False) (fun ρ' μ' Q' => wpE (.ix (.var 1) (.var 3)) ρ' μ' Q' fun _ _ => False) [a0, some (.dat (.dic kvs)), none, none, a4] μ.length (ms.map pr) (μ ++ [.dic acc]) Q
  | [], acc, _, _, q => q
  | (x, y) :: ms, acc, hm, hl, q => by
    show opt (tgD (.tp [2, 3]) (pr (x, y)) _) _
    have e : tgD (.tp [2, 3]) (pr (x, y)) [a0, some (.dat (.dic kvs)), none, none, a4] = some [a0, some (.dat (.dic kvs)), some (.dat (.str x)), some (.dat (.str y)), a4] := rfl
    rw [e]
    cases c : lk kvs (.inr y) with
    | none => simp [miss, c] at hm
    | some v =>
      have hl2 : acc.length < 16777216 := by simp at hl; omega
      simp [↓wpT, ↓wpE, ↓opt, c, bp0, bs0, hl2]
      refine call_comp ms _ (by simpa [miss, List.find?_cons, c] using hm) ?_ ?_
      · have := pk_len (kvs := acc) (k := .inr x) (d := v)
        simp at hl; omega
      · have : movD kvs ((x, y) :: ms) acc = movD kvs ms (pk acc (.inr x) v) := by simp [movD, c]
        rw [this] at q; exact q
theorem mov_len {kvs : Dc} : ∀ {ms : Ps} {acc : Dc}, (movD kvs ms acc).length ≤ acc.length + ms.length
  | [], acc => Nat.le_refl _
  | p :: ms, acc => by
    have h1 := mov_len (kvs := kvs) (ms := ms) (acc := pk acc (.inr p.1) ((lk kvs (.inr p.2)).getD .non))
    have h2 := pk_len (kvs := acc) (k := .inr p.1) (d := (lk kvs (.inr p.2)).getD .non)
    show (movD kvs ms (pk acc (.inr p.1) ((lk kvs (.inr p.2)).getD .non))).length ≤ _
    simp only [List.length_cons]
    omega
theorem w_Both_call : ∀ rs μ Q X, S_Both_call.run rs μ Q X → wpS A_Both_call (rs.map some ++ List.replicate (N_Both_call.length - rs.length) none) μ (fin false μ.length Q X) := by
  rintro rs μ Q X ⟨ps, kvs, rfl, hp, hk, hX, hQ⟩
  have lf : (ps.filter mv).length ≤ 1000 := Nat.le_trans (List.length_filter_le _ _) hp
  unfold A_Both_call
  simp [↓wpS, ↓wpT, ↓wpE, ↓wpA, ↓wpI, ↓opt, N_Both_call, seqD]
  refine call_loop (fun _ _ => rfl) (ps.filter mv) none none (fun y h => by simpa using hX y h) fun hm o2 o3 => ?_
  simp [wipeR, Tg.slots]
  refine call_comp (ps.filter mv) [] hm (by simpa using Nat.le_trans lf (by omega)) ?_
  have ml := mov_len (kvs := kvs) (ms := ps.filter mv) (acc := [])
  have l1 := mrg_len (kvs := kvs) (k0 := [])
  simp only [List.length_nil, Nat.zero_add] at ml l1
  have e0 : ∀ a b : O, (μ ++ [a, b])[μ.length + 1]? = some b := fun a b => ap1 rfl
  simp [mrgAt, RV.notAt, opt, e0, as1]
  refine ⟨by omega, by omega, ?_⟩
  simpa [finQ, opt, e0, as1, tk2, callD] using hQ hm
theorem perm_strs {ys : List D} {ns : List Str} (h : ys.Perm (ns.map .str)) : ∃ zs : List Str, ys = zs.map .str ∧ zs.Perm ns := by
  have key : ∀ {ys : List D}, (∀ y ∈ ys, ∃ z, y = D.str z) → ∃ zs : List Str, ys = zs.map .str := by
    intro ys
    induction ys with
    | nil => exact fun _ => ⟨[], rfl⟩
    | cons y ys ih =>
      intro h
      obtain ⟨z, rfl⟩ := h y List.mem_cons_self
      obtain ⟨zs, rfl⟩ := ih fun y hy => h y (List.mem_cons_of_mem _ hy)
      exact ⟨z :: zs, rfl⟩
  obtain ⟨zs, rfl⟩ := key fun y hy => by obtain ⟨z, _, e⟩ := List.mem_map.mp (h.subset hy); exact ⟨z, e.symm⟩
  refine ⟨zs, rfl, ?_⟩
  have := h.map strOf
  simpa [List.map_map, Function.comp_def, strOf] using this
def S_law_pairs : Spc where
  run := fun rs μ Q _ => ∃ (l : Nat) (ns : List Str) (n : Nat) (o : O), rs = [.loc l, .dat (.lst (ns.map .str)), .dat (.int n)] ∧ μ[l]? = some o ∧ Src o ∧ ns ≠ [] ∧ ns.length ≤ 26 ∧ ns.Nodup ∧ (∀ z ∈ ns, Nm z) ∧
    ∀ (ps : Ps) o', (xsOf ps).Nodup → (∀ p ∈ ps, p.1 ∈ ns ∧ p.2 ∈ ns) → ps.length ≤ n → Src o' → Q (.dat (.lst (ps.map pr))) (μ.set l o')
  mono := fun rs μ Q Q' X X' ⟨l, ns, n, o, h1, h2, h3, h4, h5, h6, h7, h8⟩ f g => ⟨l, ns, n, o, h1, h2, h3, h4, h5, h6, h7, fun ps o' a b c d => f _ _ (h8 ps o' a b c d)⟩
def N_law_pairs : List Str := ["_law_source_here", "_law_names_here", "_law_many", "_law_xs", "_law_x"]
def A_law_pairs : S :=
    (.seq (.set 3 (.sl (.call "_law_mixed" S_law_mixed (.ref (.var 0) (.cons (.var 1) .nil))) .no (.at (.var 2))))
    (.seq (.ret (.lc (.tup (.cons (.var 4) (.cons (.call "_law_pick" S_law_pick (.ref (.var 0) (.cons (.var 1) .nil))) .nil))) (.nm 4) (.seq (.var 3)) .tt))
    .skip))

theorem w_law_pairs : ∀ rs μ Q X, S_law_pairs.run rs μ Q X → wpS A_law_pairs (rs.map some ++ List.replicate (N_law_pairs.length - rs.length) none) μ (fin false μ.length Q X) := by
  rintro rs μ Q X ⟨l, ns, n, o, rfl, hl, ho, hn, hz, nd, hN, hQ⟩
  have hlt : l < μ.length := (List.getElem?_eq_some_iff.mp hl).1
  unfold A_law_pairs
  simp [↓wpS, ↓wpT, ↓wpE, ↓wpA, ↓wpI, ↓wpO, ↓opt, N_law_pairs]
  refine ⟨l, _, o, rfl, hl, ho, by simp; omega, fun x hx => ?_, fun ys o1 hp h1 => ?_⟩
  · obtain ⟨z, hz, rfl⟩ := List.mem_map.mp hx
    exact gd_str (hN z hz).2.2
  obtain ⟨zs, rfl, hzs⟩ := perm_strs hp
  simp [wipeR, Tg.slots, seqD, cut_to]
  rw [← List.map_take]
  have hg : ∀ o : O, (μ.set l o)[l]? = some o := fun o => by rw [List.getElem?_set_self hlt]
  refine compL_st (h := pr) (R := fun x p => p.1 = x ∧ p.2 ∈ ns) (P := fun m => ∃ o, Src o ∧ m = μ.set l o) ⟨o1, h1, rfl⟩ (fun x hx m hm => ⟨_, rfl, fun _ q => q, fun Q' q => ?_⟩) fun ps m e0 hm => ?_
  · obtain ⟨o2, h2, rfl⟩ := hm
    simp
    refine ⟨l, _, ns.map .str, o2, rfl, hg o2, h2, rfl, by simpa using hn, by simp; omega, fun y o' hy ho' => ?_⟩
    obtain ⟨y, hy', rfl⟩ := List.mem_map.mp hy
    simp [List.set_set]
    exact q (x, y) _ ⟨rfl, hy'⟩ ⟨o', ho', rfl⟩
  obtain ⟨o', e3, rfl⟩ := hm
  have e1 : xsOf ps = zs.take n := by
    have := e0.map (f := Prod.fst) (g := id) fun a b h => h.1
    simpa [xsOf] using this
  have e2 : ∀ p ∈ ps, p.2 ∈ ns := e0.all fun a b h => h.2
  simp [take_set]
  refine hQ ps o' (by rw [e1]; exact ((hzs.nodup_iff).mpr nd).sublist (List.take_sublist _ _)) (fun p hp => ⟨?_, e2 p hp⟩) ?_ e3
  · have : p.1 ∈ xsOf ps := List.mem_map.mpr ⟨p, hp, rfl⟩
    rw [e1] at this
    exact hzs.subset (List.mem_of_mem_take this)
  · have := congrArg List.length e1
    simp [xsOf] at this
    omega
def S_law_source : Spc where
  run := fun rs μ Q _ => ∃ (ps : Ps) (x : Str), rs = [.dat (.lst (ps.map pr)), .dat (.str x)] ∧ Q (.dat (.str (bsrc ps x))) μ
  mono := fun rs μ Q Q' X X' ⟨ps, x, h1, h2⟩ f g => ⟨ps, x, h1, f _ _ h2⟩
def N_law_source : List Str := ["_law_pairs_here", "_law_name", "_law_x", "_law_y"]
def B_law_source_0 : S :=
    (.seq (.ite (.v (.cmp .eq (.var 2) (.var 1))) (.seq (.ret (.var 3))
    .skip)
    .skip)
    .skip)
def A_law_source : S :=
    (.seq (.forr (.tp [2, 3]) (.seq (.var 0)) B_law_source_0)
    (.seq (.ret (.var 1))
    .skip))

theorem w_law_source : ∀ rs μ Q X, S_law_source.run rs μ Q X → wpS A_law_source (rs.map some ++ List.replicate (N_law_source.length - rs.length) none) μ (fin false μ.length Q X) := by
  rintro rs μ Q X ⟨ps, x, rfl, hQ⟩
  unfold A_law_source
  simp [↓wpS, ↓wpT, ↓wpE, ↓wpA, ↓wpI, ↓opt, N_law_source, seqD]
  refine find_loop (P := fun y => Q (.dat (.str y)) μ) (fun y h => ?_) (fun _ _ h => ?_) ps none none hQ
  · simpa using h
  · simpa using h
@[simp] theorem run_source {ps : Ps} {x : Str} {μ : Mu} {Q : QV} {X : QX} : S_law_source.run [.dat (.lst (ps.map pr)), .dat (.str x)] μ Q X ↔ Q (.dat (.str (bsrc ps x))) μ := by
  constructor
  · rintro ⟨_, _, e, q⟩
    simp at e
    obtain ⟨rfl, rfl⟩ := e
    exact q
  · exact fun q => ⟨_, _, rfl, q⟩
def S_law_got : Spc where
  run := fun rs μ Q _ => ∃ (kvs : Dc) (x : Str), rs = [.dat (.dic kvs), .dat (.str x)] ∧ lk kvs (.inr "") = none ∧ Q (.dat ((lk kvs (.inr x)).getD .non)) μ
  mono := fun rs μ Q Q' X X' ⟨ps, x, h1, h2, h3⟩ f g => ⟨ps, x, h1, h2, f _ _ h3⟩
def N_law_got : List Str := ["_law_values", "_law_name"]
def A_law_got : S :=
    (.seq (.ret (.dget (.var 0) (.var 1) (.ife (.v (.cmp .inn (.cst (.str "")) (.var 0))) (.tup (.cons (.cst (.str "name")) (.cons (.var 1) .nil))) (.cst .non))))
    .skip)

theorem w_law_got : ∀ rs μ Q X, S_law_got.run rs μ Q X → wpS A_law_got (rs.map some ++ List.replicate (N_law_got.length - rs.length) none) μ (fin false μ.length Q X) := by
  rintro rs μ Q X ⟨kvs, x, rfl, h0, hQ⟩
  unfold A_law_got
  simp [↓wpS, ↓wpT, ↓wpE, ↓wpA, ↓wpI, ↓opt, N_law_got, h0]
  cases e : lk kvs (.inr x) with
  | none => rw [e] at hQ; simpa using hQ
  | some v => rw [e] at hQ; simpa using hQ
def atOnce (kvs : Dc) (ps : Ps) (a : Dc) : Dc := ps.foldl (fun a p => pk a (.inr p.1) ((lk kvs (.inr p.2)).getD .non)) a
def S_law_at_once : Spc where
  run := fun rs μ Q _ => ∃ (ps : Ps) (kvs : Dc), rs = [.dat (.lst (ps.map pr)), .dat (.dic kvs)] ∧ lk kvs (.inr "") = none ∧ ps.length + kvs.length ≤ 1000 ∧ Q (.dat (.dic (atOnce kvs ps kvs))) μ
  mono := fun rs μ Q Q' X X' ⟨ps, x, h1, h2, h3, h4⟩ f g => ⟨ps, x, h1, h2, h3, f _ _ h4⟩
def N_law_at_once : List Str := ["_law_pairs_here", "_law_values", "_law_found", "_law_x", "_law_y"]
def B_law_at_once_0 : S :=
    (.seq (.setix (.var 2) (.var 3) (.call "_law_got" S_law_got (.cons (.var 1) (.cons (.var 4) .nil))))
    .skip)
def A_law_at_once : S :=
    (.seq (.set 2 (.dictO (.var 1)))
    (.seq (.forr (.tp [3, 4]) (.seq (.var 0)) B_law_at_once_0)
    (.seq (.ret (.var 2))
    .skip)))

theorem once_loop {kvs : Dc} {a0 : Option RV} {μ : Mu} {K : Kt} (h0 : lk kvs (.inr "") = none) : ∀ (ps : Ps) (acc : Dc) (o3 o4 : Option RV), acc.length + ps.length ≤ 1000 → (∀ o3 o4, K.nx [a0, some (.dat (.dic kvs)), some (.loc μ.length), o3, o4] (μ ++ [.dic (atOnce kvs ps acc)])) →
    forL (tgD (.tp [3, 4])) (fun ρ μ K => wpS B_law_at_once_0 ρ μ K) K (ps.map pr) [a0, some (.dat (.dic kvs)), some (.loc μ.length), o3, o4] (μ ++ [.dic acc])
  | [], acc, o3, o4, _, h => h o3 o4
  | (x, y) :: ps, acc, o3, o4, hl, h => by
    refine forL_cons (ρ' := [a0, some (.dat (.dic kvs)), some (.loc μ.length), some (.dat (.str x)), some (.dat (.str y))]) rfl fun K' k1 k2 k3 k4 k5 => ?_
    unfold B_law_at_once_0
    simp [↓wpS, ↓wpT, ↓wpE, ↓wpA, ↓wpI, ↓opt, k1, k5]
    refine ⟨kvs, y, rfl, h0, ?_⟩
    have hl2 : acc.length < 16777216 := by simp at hl; omega
    simp [bp0, bs0, hl2, opt]
    refine once_loop h0 ps _ _ _ ?_ h
    have := pk_len (kvs := acc) (k := .inr x) (d := (lk kvs (.inr y)).getD .non)
    simp at hl; omega
theorem w_law_at_once : ∀ rs μ Q X, S_law_at_once.run rs μ Q X → wpS A_law_at_once (rs.map some ++ List.replicate (N_law_at_once.length - rs.length) none) μ (fin false μ.length Q X) := by
  rintro rs μ Q X ⟨ps, kvs, rfl, h0, hl, hQ⟩
  unfold A_law_at_once
  simp [↓wpS, ↓wpT, ↓wpE, ↓wpA, ↓wpI, ↓opt, N_law_at_once, seqD]
  refine once_loop h0 ps kvs none none (by omega) fun o3 o4 => ?_
  simpa [finQ, opt, bp0, bs0, bt0] using hQ
def S_law_of : Spc where
  run := fun rs μ Q _ => ∃ ps : Ps, rs = [.dat (.lst (ps.map pr))] ∧ PsN ps ∧ (xsOf ps).Nodup ∧ ps.length ≤ 12 ∧ Q (.dat (both (ps.map pr))) μ
  mono := fun rs μ Q Q' X X' ⟨ps, h1, h2, h3, h4, h5⟩ f g => ⟨ps, h1, h2, h3, h4, f _ _ h5⟩
def N_law_of : List Str := ["_law_pairs_here"]
def A_law_of : S :=
    (.seq (.ret (.ow .ror (.bi .list (.ref (.var 0) .nil)) (.call "Both" S_Both .nil) "Both" S_Both_ror))
    .skip)

theorem w_law_of : ∀ rs μ Q X, S_law_of.run rs μ Q X → wpS A_law_of (rs.map some ++ List.replicate (N_law_of.length - rs.length) none) μ (fin false μ.length Q X) := by
  rintro rs μ Q X ⟨ps, rfl, hp, nd, hl, hQ⟩
  unfold A_law_of
  simp [↓wpS, ↓wpT, ↓wpE, ↓wpA, ↓wpI, ↓opt, N_law_of]
  refine both_mk (ps := []) (fun _ h => by cases h) List.nodup_nil (by simp) ?_
  simp
  have e := bhd_nil nd
  refine run_ror (qs := []) hp nd (fun _ h => by cases h) (by simp) hl (by rw [e]; exact hl) ?_
  rw [e]
  simpa using hQ
theorem run_of {ps : Ps} {μ : Mu} {Q : QV} {X : QX} (h1 : PsN ps) (h2 : (xsOf ps).Nodup) (h3 : ps.length ≤ 12) : S_law_of.run [.dat (.lst (ps.map pr))] μ Q X ↔ Q (.dat (both (ps.map pr))) μ := by
  constructor
  · rintro ⟨_, e, _, _, _, q⟩
    simp at e
    subst e
    exact q
  · exact fun q => ⟨_, rfl, h1, h2, h3, q⟩
end DL

namespace DL
open PySem PySem.Spec PyProof.Rows L2

theorem bsrc_mv {ps : Ps} {x : Str} (nd : (xsOf ps).Nodup) : bsrc (ps.filter mv) x = bsrc ps x := by
  have nd2 : (xsOf (ps.filter mv)).Nodup := nd.sublist (List.filter_sublist.map _)
  by_cases h : x ∈ xsOf (ps.filter mv)
  · have e := bsrc_mem h
    exact (bsrc_of nd (List.mem_filter.mp e).1).symm
  · rw [bsrc_not h]
    by_cases h2 : x ∈ xsOf ps
    · have e := bsrc_mem h2
      by_cases q : x = bsrc ps x
      · exact q
      · exact absurd (List.mem_map.mpr ⟨_, List.mem_filter.mpr ⟨e, by simp [mv]; exact q⟩, rfl⟩) h
    · rw [bsrc_not h2]
theorem lk_mov {kvs : Dc} {x : Str} : ∀ {ms : Ps} {acc : Dc}, (xsOf ms).Nodup → lk (movD kvs ms acc) (.inr x) = if x ∈ xsOf ms then some ((lk kvs (.inr (bsrc ms x))).getD .non) else lk acc (.inr x)
  | [], acc, _ => by simp [movD, xsOf]
  | (a, b) :: ms, acc, nd => by
    simp only [xsOf, List.map_cons, List.nodup_cons] at nd
    show lk (movD kvs ms (pk acc (.inr a) ((lk kvs (.inr b)).getD .non))) (.inr x) = _
    rw [lk_mov (ms := ms) nd.2, lk_pk]
    by_cases e : x = a
    · subst e
      simp only [xsOf, List.map_cons, List.mem_cons, true_or, if_true, if_neg nd.1]
      simp [bsrc]
    · have e' : ¬ a = x := fun z => e z.symm
      have e2 : (x ∈ xsOf ((a, b) :: ms)) ↔ x ∈ xsOf ms := by simp [xsOf, e]
      simp only [e2]
      have e3 : ¬ (Sum.inr x : Key) = Sum.inr a := fun z => e (Sum.inr.inj z)
      rw [if_neg e3]
      have e4 : bsrc ((a, b) :: ms) x = bsrc ms x := by
        show (if a == x then b else bsrc ms x) = _
        rw [if_neg (by simpa using e')]
      rw [e4]
theorem lk_movI {kvs : Dc} {i : Int} : ∀ {ms : Ps} {acc : Dc}, lk (movD kvs ms acc) (.inl i) = lk acc (.inl i)
  | [], acc => rfl
  | (a, b) :: ms, acc => by
    show lk (movD kvs ms (pk acc (.inr a) ((lk kvs (.inr b)).getD .non))) (.inl i) = _
    rw [lk_movI, lk_pk, if_neg (fun z => nomatch z)]
theorem nd_mov {kvs : Dc} : ∀ {ms : Ps} {acc : Dc}, (keys acc).Nodup → (keys (movD kvs ms acc)).Nodup
  | [], acc, h => h
  | (a, b) :: ms, acc, h => nd_mov (ms := ms) (nd_pk h)
theorem miss_none {ms : Ps} {kvs : Dc} : miss ms kvs = none ↔ ∀ p ∈ ms, (lk kvs (.inr p.2)).isSome = true := by
  unfold miss
  rw [Option.map_eq_none_iff, List.find?_eq_none]
  exact ⟨fun h p hp => by have := h p hp; cases q : (lk kvs (.inr p.2)).isSome <;> simp [q] at this ⊢, fun h p hp => by rw [h p hp]; simp⟩
theorem lk_call {ps : Ps} {kvs : Dc} {x : Str} (nd : (xsOf ps).Nodup) (hm : miss (ps.filter mv) kvs = none) (hk : (keys kvs).Nodup) : lk (callD ps kvs) (.inr x) = lk kvs (.inr (bsrc ps x)) := by
  have nd2 : (xsOf (ps.filter mv)).Nodup := nd.sublist (List.filter_sublist.map _)
  unfold callD
  rw [lk_mrg (nd_mov (acc := []) List.nodup_nil), lk_mrg hk, lk_mov nd2, bsrc_mv nd]
  by_cases h : x ∈ xsOf (ps.filter mv)
  · rw [if_pos h]
    have e := bsrc_mem h
    have := miss_none.mp hm _ e
    rw [bsrc_mv nd] at this
    obtain ⟨v, hv⟩ := Option.isSome_iff_exists.mp this
    rw [hv]; rfl
  · rw [if_neg h]
    have := bsrc_not h
    rw [bsrc_mv nd] at this
    rw [this]
    cases lk kvs (.inr x) <;> rfl
theorem lk_callI {ps : Ps} {kvs : Dc} {i : Int} (hk : (keys kvs).Nodup) : lk (callD ps kvs) (.inl i) = lk kvs (.inl i) := by
  unfold callD
  rw [lk_mrg (nd_mov (acc := []) List.nodup_nil), lk_mrg hk, lk_movI]
  cases lk kvs (.inl i) <;> rfl
theorem nd_call {ps : Ps} {kvs : Dc} : (keys (callD ps kvs)).Nodup := nd_mrg (nd_mrg (k0 := []) List.nodup_nil)
theorem mov_P {P : D → Prop} {kvs : Dc} (hk : ∀ p ∈ kvs, P p.2) : ∀ {ms : Ps} {acc : Dc}, (∀ p ∈ ms, (lk kvs (.inr p.2)).isSome = true) → (∀ p ∈ acc, P p.2) → ∀ p ∈ movD kvs ms acc, P p.2
  | [], acc, _, h => h
  | (a, b) :: ms, acc, hm, h => by
    refine mov_P hk (ms := ms) (acc := pk acc (.inr a) ((lk kvs (.inr b)).getD .non)) (fun p hp => hm p (List.mem_cons_of_mem _ hp)) fun p hp => ?_
    rcases pk_mem hp with e | ⟨q, hq, e⟩
    · rw [e]
      obtain ⟨v, hv⟩ := Option.isSome_iff_exists.mp (hm _ List.mem_cons_self)
      simp only at hv
      rw [hv]
      exact hk _ (lk_mem hv)
    · rw [e]; exact h q hq
theorem call_P {P : D → Prop} {ps : Ps} {kvs : Dc} (hm : miss (ps.filter mv) kvs = none) (hk : ∀ p ∈ kvs, P p.2) : ∀ p ∈ callD ps kvs, P p.2 :=
  mrg_P (mrg_P (fun _ h => by cases h) hk) (mov_P hk (miss_none.mp hm) fun _ h => by cases h)
theorem call_len {ps : Ps} {kvs : Dc} : (callD ps kvs).length ≤ kvs.length + ps.length := by
  have h1 := mrg_len (kvs := movD kvs (ps.filter mv) []) (k0 := mrgD [] kvs)
  have h2 := mrg_len (kvs := kvs) (k0 := [])
  have h3 := mov_len (kvs := kvs) (ms := ps.filter mv) (acc := [])
  have h4 := List.length_filter_le mv ps
  simp only [List.length_nil] at h2 h3
  unfold callD
  omega
theorem once_mov {kvs acc : Dc} {ps : Ps} : atOnce kvs ps acc = movD kvs ps acc := rfl
theorem lk_once {kvs : Dc} {ps : Ps} {x : Str} (nd : (xsOf ps).Nodup) (hm : ∀ p ∈ ps, (lk kvs (.inr p.2)).isSome = true) : lk (atOnce kvs ps kvs) (.inr x) = lk kvs (.inr (bsrc ps x)) := by
  rw [once_mov, lk_mov nd]
  by_cases h : x ∈ xsOf ps
  · rw [if_pos h]
    obtain ⟨v, hv⟩ := Option.isSome_iff_exists.mp (hm _ (bsrc_mem h))
    simp only at hv
    rw [hv]; rfl
  · rw [if_neg h, bsrc_not h]
/-- dicts with these names as keys, whole numbers as values -/
structure Vk (ns : List Str) (c : Dc) : Prop where
  nd : (keys c).Nodup
  ks : ∀ k, (lk c k).isSome = true ↔ ∃ n ∈ ns, k = .inr n
  vs : ∀ p ∈ c, okE1 p.2
theorem gd_strs' {xs : List Str} (h : ∀ x ∈ xs, low x) : ∀ d ∈ xs.map D.str, gd d := by
  intro d hd
  obtain ⟨x, hx, rfl⟩ := List.mem_map.mp hd
  exact gd_str (h x hx)
def PsOn (ns : List Str) (ps : Ps) : Prop := (xsOf ps).Nodup ∧ (∀ p ∈ ps, p.1 ∈ ns ∧ p.2 ∈ ns) ∧ ps.length ≤ ns.length
theorem PsOn.n {ns : List Str} {ps : Ps} (h : PsOn ns ps) (hN : ∀ z ∈ ns, Nm z) : PsN ps := fun p hp => ⟨hN _ (h.2.1 p hp).1, hN _ (h.2.1 p hp).2⟩
theorem nd_sub {α : Type} [DecidableEq α] : ∀ {a b : List α}, a.Nodup → (∀ x ∈ a, x ∈ b) → a.length ≤ b.length
  | [], _, _, _ => Nat.zero_le _
  | x :: a, b, na, h => by
    obtain ⟨n1, n2⟩ := List.nodup_cons.mp na
    have hx := h x List.mem_cons_self
    have := nd_sub (b := b.erase x) n2 fun y hy => (List.mem_erase_of_ne (a := y) (b := x) (fun e => n1 (by rw [← e]; exact hy))).mpr (h y (List.mem_cons_of_mem _ hy))
    rw [List.length_erase_of_mem hx] at this
    have := List.length_pos_of_mem hx
    simp only [List.length_cons]
    omega
theorem PsOn.mk' {ns : List Str} {ps : Ps} (h1 : (xsOf ps).Nodup) (h2 : ∀ p ∈ ps, p.1 ∈ ns ∧ p.2 ∈ ns) : PsOn ns ps := ⟨h1, h2, by
  have := nd_sub h1 (b := ns) fun x hx => by obtain ⟨p, hp, rfl⟩ := List.mem_map.mp hx; exact (h2 p hp).1
  simpa [xsOf] using this⟩
theorem PsOn.bhd {ns : List Str} {ps qs : Ps} (h : PsOn ns ps) (h' : PsOn ns qs) : PsOn ns (bhd ps qs) :=
  .mk' bhd_nd (bhd_P h.2.1 h'.2.1)
section
variable {ns : List Str} {c : Dc} {ps : Ps}
theorem Vk.has (v : Vk ns c) {n : Str} (h : n ∈ ns) : (lk c (.inr n)).isSome = true := (v.ks _).mpr ⟨n, h, rfl⟩
theorem Vk.no (v : Vk ns c) {k : Key} (h : ∀ n ∈ ns, k ≠ .inr n) : lk c k = none := by
  cases e : lk c k with
  | none => rfl
  | some x =>
    obtain ⟨n, hn, e2⟩ := (v.ks k).mp (by rw [e]; rfl)
    exact absurd e2 (h n hn)
theorem Vk.noI (v : Vk ns c) {i : Int} : lk c (.inl i) = none := v.no (k := .inl i) fun n _ e => by cases e
theorem Vk.len (v : Vk ns c) : c.length ≤ ns.length := by
  have := nd_sub (a := keys c) (b := ns.map Sum.inr) v.nd fun k hk => by
    obtain ⟨n, hn, rfl⟩ := (v.ks k).mp (lk_key.mpr hk)
    exact List.mem_map.mpr ⟨n, hn, rfl⟩
  simpa [keys] using this
theorem Vk.miss (v : Vk ns c) (h : PsOn ns ps) : miss (ps.filter mv) c = none := miss_none.mpr fun p hp => v.has (h.2.1 p (List.mem_filter.mp hp).1).2
theorem Vk.src (h : PsOn ns ps) {x : Str} : (∃ n ∈ ns, (Sum.inr (bsrc ps x) : Key) = .inr n) ↔ ∃ n ∈ ns, (Sum.inr x : Key) = .inr n := by
  constructor
  · rintro ⟨n, hn, e⟩
    have e := Sum.inr.inj e
    by_cases q : x ∈ xsOf ps
    · obtain ⟨p, hp, rfl⟩ := List.mem_map.mp q; exact ⟨_, (h.2.1 p hp).1, rfl⟩
    · rw [bsrc_not q] at e; exact ⟨n, hn, by rw [e]⟩
  · rintro ⟨n, hn, e⟩
    have e := Sum.inr.inj e
    subst e
    exact ⟨_, bsrc_P (P := fun z => z ∈ ns) (fun p hp => (h.2.1 p hp).2) hn, rfl⟩
theorem Vk.call (v : Vk ns c) (h : PsOn ns ps) : Vk ns (callD ps c) := by
  refine ⟨nd_call, fun k => ?_, call_P (v.miss h) v.vs⟩
  cases k with
  | inl i => rw [lk_callI v.nd]; exact v.ks _
  | inr x => rw [lk_call h.1 (v.miss h) v.nd, v.ks]; exact Vk.src h
theorem Vk.once (v : Vk ns c) (h : PsOn ns ps) : Vk ns (atOnce c ps c) := by
  have hm : ∀ p ∈ ps, (lk c (.inr p.2)).isSome = true := fun p hp => v.has (h.2.1 p hp).2
  refine ⟨nd_mov v.nd, fun k => ?_, mov_P v.vs hm v.vs⟩
  cases k with
  | inl i => rw [once_mov, lk_movI]; exact v.ks _
  | inr x => rw [lk_once h.1 hm, v.ks]; exact Vk.src h
theorem run_call {μ : Mu} {Q : QV} {X : QX} (h : PsOn ns ps) (v : Vk ns c) (hl : ns.length ≤ 900) : S_Both_call.run [.dat (both (ps.map pr)), .dat (.dic c)] μ Q X ↔ Q (.dat (.dic (callD ps c))) μ := by
  constructor
  · rintro ⟨_, _, e, _, _, _, q⟩
    simp at e
    obtain ⟨rfl, rfl⟩ := e
    exact q (v.miss h)
  · intro q
    have := h.2.2
    have := v.len
    exact ⟨ps, c, rfl, by omega, by omega, fun y e => (by rw [v.miss h] at e; cases e), fun _ => q⟩
theorem run_once {μ : Mu} {Q : QV} {X : QX} (h : PsOn ns ps) (v : Vk ns c) (hl : ns.length ≤ 400) (hN : ∀ z ∈ ns, Nm z) : S_law_at_once.run [.dat (.lst (ps.map pr)), .dat (.dic c)] μ Q X ↔ Q (.dat (.dic (atOnce c ps c))) μ := by
  constructor
  · rintro ⟨_, _, e, _, _, q⟩
    simp at e
    obtain ⟨rfl, rfl⟩ := e
    exact q
  · intro q
    have := h.2.2
    have := v.len
    refine ⟨ps, c, rfl, v.no fun n hn e => ?_, by omega, q⟩
    have e := Sum.inr.inj e
    have := (hN n hn).1
    rw [← e] at this
    exact absurd this (by decide)
theorem call_call {qs : Ps} (v : Vk ns c) (h : PsOn ns ps) (h' : PsOn ns qs) : eqD (.dic (callD (DL.bhd ps qs) c)) (.dic (callD qs (callD ps c))) = some true := by
  have v1 := v.call h
  have v2 := v1.call h'
  have v3 := v.call (h.bhd h')
  refine eq_dics v3.nd v2.nd (fun k => ?_) v3.vs
  cases k with
  | inl i => rw [v3.noI, v2.noI]
  | inr x => rw [lk_call bhd_nd (v.miss (h.bhd h')) v.nd, lk_call h'.1 (v1.miss h') v1.nd, lk_call h.1 (v.miss h) v.nd, bhd_src]
theorem call_once {qs : Ps} (v : Vk ns c) (h : PsOn ns ps) (h' : PsOn ns qs) : eqD (.dic (callD (DL.bhd ps qs) c)) (.dic (atOnce (atOnce c ps c) qs (atOnce c ps c))) = some true := by
  have v1 := v.once h
  have v2 := v1.once h'
  have v3 := v.call (h.bhd h')
  refine eq_dics v3.nd v2.nd (fun k => ?_) v3.vs
  cases k with
  | inl i => rw [v3.noI, v2.noI]
  | inr x => rw [lk_call bhd_nd (v.miss (h.bhd h')) v.nd, lk_once h'.1 (fun p hp => v1.has (h'.2.1 p hp).2), lk_once h.1 (fun p hp => v.has (h.2.1 p hp).2), bhd_src]
theorem Vk.eq (v : Vk ns c) : eqD (.dic c) (.dic c) = some true := eq_dics v.nd v.nd (fun _ => rfl) v.vs
end
end DL

namespace DL
open PySem PySem.Spec PyProof.Rows L2

def S_each_once : Spc where
  run := fun rs μ Q _ => ∃ (d : D) (ss : List Str), rs = [.dat d] ∧ txtsD d = some ss ∧ ss.length < 4000 ∧ Q (.dat (.lst ((sortS (setTs ss)).map .str))) μ
  mono := fun rs μ Q Q' X X' ⟨d, ss, h1, h2, h3, h4⟩ f g => ⟨d, ss, h1, h2, h3, f _ _ h4⟩
def N_each_once : List Str := ["names"]
def A_each_once : S :=
    (.seq (.ret (.sorset (.var 0)))
    .skip)

theorem w_each_once : ∀ rs μ Q X, S_each_once.run rs μ Q X → wpS A_each_once (rs.map some ++ List.replicate (N_each_once.length - rs.length) none) μ (fin false μ.length Q X) := by
  rintro rs μ Q X ⟨d, ss, rfl, h1, h2, hQ⟩
  unfold A_each_once
  simp [↓wpS, ↓wpT, ↓wpE, ↓wpA, ↓wpI, ↓opt, N_each_once, h1]
  exact ⟨h2, by simpa using hQ⟩
@[simp] theorem txts_lst {ss : List Str} : txtsD (.lst (ss.map .str)) = some ss := strs_map ss
@[simp] theorem txts_tup {ss : List Str} : txtsD (.tup (ss.map .str)) = some ss := strs_map ss
theorem sset_perm {a b : List Str} (h : ∀ x, x ∈ a ↔ x ∈ b) : sortS (setTs a) = sortS (setTs b) := by
  refine sortS_perm ?_
  rw [List.perm_ext_iff_of_nodup (setTs_nd a) (setTs_nd b)]
  intro x
  rw [setTs_mem, setTs_mem]
  exact h x
/-- the names of moving pairs -/
def bothNs (ps : Ps) : List Str := (ps.filter mv).flatMap fun p => [p.1, p.2]
def S_Both_names : Spc where
  run := fun rs μ Q _ => ∃ ps : Ps, rs = [.dat (both (ps.map pr))] ∧ ps.length ≤ 1000 ∧ Q (.dat (.lst ((sortS (setTs (bothNs ps))).map .str))) μ
  mono := fun rs μ Q Q' X X' ⟨d, h1, h2, h3⟩ f g => ⟨d, h1, h2, f _ _ h3⟩
def N_Both_names : List Str := ["self", "pair", "name"]
def A_Both_names : S :=
    (.seq (.ret (.call "each_once" S_each_once (.cons (.lc2 (.var 2) (.nm 1) (.seq (.meth (.var 0) "Both" "moving" S_Both_moving .nil)) .tt (.nm 2) (.seq (.var 1)) .tt) .nil)))
    .skip)

theorem compL2_pr {ρ : Rho} {μ : Mu} {ts : Rho → Mu → QB → Prop} {it2 : Rho → Mu → QD → Prop} {in2 : Rho → List D → Mu → QD → Prop} {tg : D → Rho → Option Rho} :
    ∀ (ps : Ps), (∀ p ∈ ps, ∃ ρ', tg (pr p) ρ = some ρ' ∧ (∀ Q : QB, Q true μ → ts ρ' μ Q) ∧ (∀ Q : QD, Q [.str p.1, .str p.2] μ → it2 ρ' μ Q) ∧ ∀ Q : QD, Q [.str p.1, .str p.2] μ → in2 ρ' [.str p.1, .str p.2] μ Q) →
    ∀ Q : QD, Q ((ps.flatMap fun p => [p.1, p.2]).map .str) μ → compL2 tg ts it2 in2 ρ (ps.map pr) μ Q
  | [], _, Q, q => q
  | p :: ps, h, Q, q => by
    obtain ⟨ρ', e, h1, h2, h3⟩ := h p List.mem_cons_self
    show opt (tg (pr p) ρ) _
    rw [e]
    refine h1 _ ?_
    rw [if_pos rfl]
    refine h2 _ ⟨by simp, h3 _ ?_⟩
    refine compL2_pr ps (fun p hp => h p (List.mem_cons_of_mem _ hp)) _ ?_
    simpa [List.flatMap_cons] using q
theorem w_Both_names : ∀ rs μ Q X, S_Both_names.run rs μ Q X → wpS A_Both_names (rs.map some ++ List.replicate (N_Both_names.length - rs.length) none) μ (fin false μ.length Q X) := by
  rintro rs μ Q X ⟨ps, rfl, hl, hQ⟩
  have lf : (ps.filter mv).length ≤ 1000 := Nat.le_trans (List.length_filter_le _ _) hl
  unfold A_Both_names
  simp [↓wpS, ↓wpT, ↓wpE, ↓wpA, ↓wpI, ↓opt, N_Both_names, seqD, wipeR, Tg.slots]
  refine ⟨lf, ?_⟩
  refine compL2_pr (ps.filter mv) (fun p hp => ⟨_, rfl, fun _ q => q, fun Q q => ?_, fun Q q => ?_⟩) _ ?_
  · simp [pr, seqD]
    exact q
  · simp [compL, tgD, opt]
    exact q
  · refine ⟨_, _, rfl, txts_lst, ?_, by simpa [bothNs] using hQ⟩
    have : ∀ qs : Ps, (qs.flatMap fun p => [p.1, p.2]).length = 2 * qs.length := by
      intro qs
      induction qs with
      | nil => rfl
      | cons q qs ih => simp [List.flatMap_cons, ih]; omega
    rw [this]
    omega
def takS (ps : Ps) (y : Str) : List Str := sortS (xsOf ((ps.filter mv).filter fun p => p.2 == y))
def S_Both_takers : Spc where
  run := fun rs μ Q _ => ∃ (ps : Ps) (y : Str), rs = [.dat (both (ps.map pr)), .dat (.str y)] ∧ Q (.dat (.lst ((takS ps y).map .str))) μ
  mono := fun rs μ Q Q' X X' ⟨d, y, h1, h2⟩ f g => ⟨d, y, h1, f _ _ h2⟩
def N_Both_takers : List Str := ["self", "y", "x", "other"]
def A_Both_takers : S :=
    (.seq (.ret (.bi .sorted (.ref (.lc (.bi .str (.ref (.var 2) .nil)) (.tp [2, 3]) (.seq (.meth (.var 0) "Both" "moving" S_Both_moving .nil)) (.v (.cmp .eq (.var 3) (.var 1)))) .nil)))
    .skip)

theorem w_Both_takers : ∀ rs μ Q X, S_Both_takers.run rs μ Q X → wpS A_Both_takers (rs.map some ++ List.replicate (N_Both_takers.length - rs.length) none) μ (fin false μ.length Q X) := by
  rintro rs μ Q X ⟨ps, y, rfl, hQ⟩
  unfold A_Both_takers
  simp [↓wpS, ↓wpT, ↓wpE, ↓wpA, ↓wpI, ↓opt, N_Both_takers, wipeR, Tg.slots, seqD]
  refine compL_map (p := fun p => p.2 == y) (f := fun p => .str p.1) (fun p hq => ⟨_, rfl, fun Q q => ?_, fun _ Q' q => ?_⟩) ?_
  · simp [ne_str]
    exact q
  · simp
    exact q
  · have e : (((ps.filter mv).filter fun p => p.2 == y).map fun p => D.str p.1) = (xsOf ((ps.filter mv).filter fun p => p.2 == y)).map D.str := by unfold xsOf; rw [List.map_map]; rfl
    rw [e]
    simp only [strs_map, Option.map_some]
    unfold takS at hQ
    simpa using hQ
section
variable {μ : Mu} {Q : QV} {X : QX} {ps : Ps} {y : Str}
@[simp] theorem run_takers : S_Both_takers.run [.dat (both (ps.map pr)), .dat (.str y)] μ Q X ↔ Q (.dat (.lst ((takS ps y).map .str))) μ := by
  constructor
  · rintro ⟨_, _, e, q⟩
    simp at e
    obtain ⟨rfl, rfl⟩ := e
    exact q
  · exact fun q => ⟨_, _, rfl, q⟩
theorem run_names (h : ps.length ≤ 1000) : S_Both_names.run [.dat (both (ps.map pr))] μ Q X ↔ Q (.dat (.lst ((sortS (setTs (bothNs ps))).map .str))) μ := by
  constructor
  · rintro ⟨_, e, _, q⟩
    simp at e
    subst e
    exact q
  · exact fun q => ⟨_, rfl, h, q⟩
end
end DL

namespace DL
open PySem PySem.Spec PyProof.Rows L2

mutual
def evE : E → Rho → Mu → Option (RV × Mu)
  | .var i, ρ, μ => (ρ[i]?).bind fun o => o.map fun rv => (rv, μ)
  | .cst d, _, μ => some (.dat d, μ)
  | .glb _ d, _, μ => some (.dat d, μ)
  | .one a, ρ, μ => evE a ρ μ
  | .bin o a b, ρ, μ => (evE a ρ μ).bind fun p => (evE b ρ p.2).bind fun q => (vw q.2 p.1).bind fun d => (vw q.2 q.1).bind fun e => (binD o d e).map fun z => (.dat z, q.2)
  | .cmp o a b, ρ, μ => (evE a ρ μ).bind fun p => (evE b ρ p.2).bind fun q => (vw q.2 p.1).bind fun d => (vw q.2 q.1).bind fun e => (cmpD o d e).map fun z => (.dat (.bl z), q.2)
  | .ix a b, ρ, μ => (evE a ρ μ).bind fun p => (evE b ρ p.2).bind fun q => (vw q.2 p.1).bind fun d => (vw q.2 q.1).bind fun e => (ixD d e).map fun z => (.dat z, q.2)
  | .bi f as, ρ, μ => (evA as ρ μ).bind fun p => (vws p.2 p.1).bind fun ds => match biL f ds with
    | some xs => some (.dat (.lst xs), p.2)
    | none => (biD f ds).map fun z => (.dat z, p.2)
  | .isi a t, ρ, μ => (evE a ρ μ).bind fun p => (vw p.2 p.1).bind fun d => (isiD t d).map fun z => (.dat (.bl z), p.2)
  | .tup as, ρ, μ => (evA as ρ μ).bind fun p => (datsOf p.1).bind fun ds => if ds.length ≤ 16777216 then some (.dat (.tup ds), p.2) else none
  | .lst as, ρ, μ => (evA as ρ μ).bind fun p => (datsOf p.1).bind fun ds => if ds.length ≤ 16777216 then some (.dat (.lst ds), p.2) else none
  | .lstO as, ρ, μ => (evA as ρ μ).bind fun p => (datsOf p.1).bind fun ds => if ds.length ≤ 16777216 then some (.loc p.2.length, p.2 ++ [.lst ds]) else none
  | _, _, _ => none
def evA : As → Rho → Mu → Option (List RV × Mu)
  | .nil, _, μ => some ([], μ)
  | .cons a r, ρ, μ => (evE a ρ μ).bind fun p => (fz p.2 p.1).bind fun q => (evA r ρ q.2).map fun t => (.dat q.1 :: t.1, t.2)
  | .ref a r, ρ, μ => (evE a ρ μ).bind fun p => if p.1.ok = true then (evA r ρ p.2).map fun t => (p.1 :: t.1, t.2) else none
  | .star _ _, _, _ => none
end
mutual
theorem evE_ok : ∀ (e : E) {ρ : Rho} {μ μ' : Mu} {rv : RV} {Q : QV} {X : QX}, evE e ρ μ = some (rv, μ') → Q rv μ' → wpE e ρ μ Q X
  | .var i, ρ, μ, μ', rv, Q, X, h, q => by
    simp only [evE] at h
    obtain ⟨o, e1, h⟩ := Option.bind_eq_some_iff.mp h
    obtain ⟨r, e2, h⟩ := Option.map_eq_some_iff.mp h
    cases h
    simp only [wpE, opt]
    rw [e1, e2]
    exact q
  | .cst d, ρ, μ, μ', rv, Q, X, h, q => by simp only [evE] at h; cases h; exact q
  | .glb _ d, ρ, μ, μ', rv, Q, X, h, q => by simp only [evE] at h; cases h; exact q
  | .one a, ρ, μ, μ', rv, Q, X, h, q => evE_ok a (by simpa only [evE] using h) q
  | .bin o a b, ρ, μ, μ', rv, Q, X, h, q => by
    simp only [evE] at h
    obtain ⟨⟨r1, μ1⟩, e1, h⟩ := Option.bind_eq_some_iff.mp h
    obtain ⟨⟨r2, μ2⟩, e2, h⟩ := Option.bind_eq_some_iff.mp h
    obtain ⟨d, e3, h⟩ := Option.bind_eq_some_iff.mp h
    obtain ⟨e, e4, h⟩ := Option.bind_eq_some_iff.mp h
    obtain ⟨z, e5, h⟩ := Option.map_eq_some_iff.mp h
    cases h
    refine evE_ok a e1 (evE_ok b e2 ?_)
    simp only [opt]
    rw [e3, e4]
    simp only
    rw [e5]
    exact q
  | .cmp o a b, ρ, μ, μ', rv, Q, X, h, q => by
    simp only [evE] at h
    obtain ⟨⟨r1, μ1⟩, e1, h⟩ := Option.bind_eq_some_iff.mp h
    obtain ⟨⟨r2, μ2⟩, e2, h⟩ := Option.bind_eq_some_iff.mp h
    obtain ⟨d, e3, h⟩ := Option.bind_eq_some_iff.mp h
    obtain ⟨e, e4, h⟩ := Option.bind_eq_some_iff.mp h
    obtain ⟨z, e5, h⟩ := Option.map_eq_some_iff.mp h
    cases h
    refine evE_ok a e1 (evE_ok b e2 ?_)
    simp only [opt]
    rw [e3, e4]
    simp only
    rw [e5]
    exact q
  | .ix a b, ρ, μ, μ', rv, Q, X, h, q => by
    simp only [evE] at h
    obtain ⟨⟨r1, μ1⟩, e1, h⟩ := Option.bind_eq_some_iff.mp h
    obtain ⟨⟨r2, μ2⟩, e2, h⟩ := Option.bind_eq_some_iff.mp h
    obtain ⟨d, e3, h⟩ := Option.bind_eq_some_iff.mp h
    obtain ⟨e, e4, h⟩ := Option.bind_eq_some_iff.mp h
    obtain ⟨z, e5, h⟩ := Option.map_eq_some_iff.mp h
    cases h
    refine evE_ok a e1 (evE_ok b e2 ?_)
    simp only [opt]
    rw [e3, e4]
    simp only
    rw [e5]
    exact q
  | .bi f as, ρ, μ, μ', rv, Q, X, h, q => by
    simp only [evE] at h
    obtain ⟨⟨rs, μ1⟩, e1, h⟩ := Option.bind_eq_some_iff.mp h
    obtain ⟨ds, e2, h⟩ := Option.bind_eq_some_iff.mp h
    refine evA_ok as e1 ?_
    simp only [opt]
    rw [e2]
    simp only
    split at h
    · rename_i xs e3
      cases h
      first
        | exact q
        | (rw [e3]; exact q)
    · rename_i e3
      obtain ⟨z, e4, h⟩ := Option.map_eq_some_iff.mp h
      cases h
      first
        | (rw [e4]; exact q)
        | (rw [e3]; simp only; rw [e4]; exact q)
  | .isi a t, ρ, μ, μ', rv, Q, X, h, q => by
    simp only [evE] at h
    obtain ⟨⟨r1, μ1⟩, e1, h⟩ := Option.bind_eq_some_iff.mp h
    obtain ⟨d, e2, h⟩ := Option.bind_eq_some_iff.mp h
    obtain ⟨z, e3, h⟩ := Option.map_eq_some_iff.mp h
    cases h
    refine evE_ok a e1 ?_
    simp only [opt]
    rw [e2]
    simp only
    rw [e3]
    exact q
  | .tup as, ρ, μ, μ', rv, Q, X, h, q => by
    simp only [evE] at h
    obtain ⟨⟨rs, μ1⟩, e1, h⟩ := Option.bind_eq_some_iff.mp h
    obtain ⟨ds, e2, h⟩ := Option.bind_eq_some_iff.mp h
    split at h
    · rename_i hl
      cases h
      refine evA_ok as e1 ?_
      simp only [opt]
      rw [e2]
      exact ⟨hl, q⟩
    · cases h
  | .lst as, ρ, μ, μ', rv, Q, X, h, q => by
    simp only [evE] at h
    obtain ⟨⟨rs, μ1⟩, e1, h⟩ := Option.bind_eq_some_iff.mp h
    obtain ⟨ds, e2, h⟩ := Option.bind_eq_some_iff.mp h
    split at h
    · rename_i hl
      cases h
      refine evA_ok as e1 ?_
      simp only [opt]
      rw [e2]
      exact ⟨hl, q⟩
    · cases h
  | .lstO as, ρ, μ, μ', rv, Q, X, h, q => by
    simp only [evE] at h
    obtain ⟨⟨rs, μ1⟩, e1, h⟩ := Option.bind_eq_some_iff.mp h
    obtain ⟨ds, e2, h⟩ := Option.bind_eq_some_iff.mp h
    split at h
    · rename_i hl
      cases h
      refine evA_ok as e1 ?_
      simp only [opt]
      rw [e2]
      exact ⟨hl, q⟩
    · cases h
  | .chn _ _ _ _ _, _, _, _, _, _, _, h, _ => by simp only [evE] at h; cases h
  | .and _ _, _, _, _, _, _, _, h, _ => by simp only [evE] at h; cases h
  | .or _ _, _, _, _, _, _, _, h, _ => by simp only [evE] at h; cases h
  | .not _, _, _, _, _, _, _, h, _ => by simp only [evE] at h; cases h
  | .ife _ _ _, _, _, _, _, _, _, h, _ => by simp only [evE] at h; cases h
  | .sl _ _ _, _, _, _, _, _, _, h, _ => by simp only [evE] at h; cases h
  | .rev _, _, _, _, _, _, _, h, _ => by simp only [evE] at h; cases h
  | .fld _ _ _, _, _, _, _, _, _, h, _ => by simp only [evE] at h; cases h
  | .xfld _ _ _, _, _, _, _, _, _, h, _ => by simp only [evE] at h; cases h
  | .xisi _ _ _, _, _, _, _, _, _, h, _ => by simp only [evE] at h; cases h
  | .lenO _ _ _, _, _, _, _, _, _, h, _ => by simp only [evE] at h; cases h
  | .lc _ _ _ _, _, _, _, _, _, _, h, _ => by simp only [evE] at h; cases h
  | .call _ _ _, _, _, _, _, _, _, h, _ => by simp only [evE] at h; cases h
  | .meth _ _ _ _ _, _, _, _, _, _, _, h, _ => by simp only [evE] at h; cases h
  | .app _ _, _, _, _, _, _, _, h, _ => by simp only [evE] at h; cases h
  | .popat _ _, _, _, _, _, _, _, h, _ => by simp only [evE] at h; cases h
  | .listO _, _, _, _, _, _, _, h, _ => by simp only [evE] at h; cases h
  | .lcO _ _ _ _, _, _, _, _, _, _, h, _ => by simp only [evE] at h; cases h
  | .bad, _, _, _, _, _, _, h, _ => by simp only [evE] at h; cases h
  | .dic0, _, _, _, _, _, _, h, _ => by simp only [evE] at h; cases h
  | .dget _ _ _, _, _, _, _, _, _, h, _ => by simp only [evE] at h; cases h
  | .dictO _, _, _, _, _, _, _, h, _ => by simp only [evE] at h; cases h
  | .dcO _ _ _ _ _, _, _, _, _, _, _, h, _ => by simp only [evE] at h; cases h
  | .ow _ _ _ _ _, _, _, _, _, _, _, h, _ => by simp only [evE] at h; cases h
  | .callO _ _ _ _, _, _, _, _, _, _, h, _ => by simp only [evE] at h; cases h
  | .isiO _ _, _, _, _, _, _, _, h, _ => by simp only [evE] at h; cases h
  | .sortK _, _, _, _, _, _, _, h, _ => by simp only [evE] at h; cases h
  | .dmrg _ _, _, _, _, _, _, _, h, _ => by simp only [evE] at h; cases h
theorem evA_ok : ∀ (e : As) {ρ : Rho} {μ μ' : Mu} {rs : List RV} {Q : List RV → Mu → Prop} {X : QX}, evA e ρ μ = some (rs, μ') → Q rs μ' → wpA e ρ μ Q X
  | .nil, ρ, μ, μ', rs, Q, X, h, q => by simp only [evA] at h; cases h; exact q
  | .cons a r, ρ, μ, μ', rs, Q, X, h, q => by
    simp only [evA] at h
    obtain ⟨⟨r1, μ1⟩, e1, h⟩ := Option.bind_eq_some_iff.mp h
    obtain ⟨⟨d, μ2⟩, e2, h⟩ := Option.bind_eq_some_iff.mp h
    obtain ⟨⟨ts, μ3⟩, e3, h⟩ := Option.map_eq_some_iff.mp h
    cases h
    refine evE_ok a e1 ?_
    simp only [opt]
    rw [e2]
    exact evA_ok r e3 q
  | .ref a r, ρ, μ, μ', rs, Q, X, h, q => by
    simp only [evA] at h
    obtain ⟨⟨r1, μ1⟩, e1, h⟩ := Option.bind_eq_some_iff.mp h
    split at h
    · rename_i hr
      obtain ⟨⟨ts, μ3⟩, e3, h⟩ := Option.map_eq_some_iff.mp h
      cases h
      exact evE_ok a e1 ⟨hr, evA_ok r e3 q⟩
    · cases h
  | .star _ _, _, _, _, _, _, _, h, _ => by simp only [evA] at h; cases h
end
theorem set_ev {i : Nat} {e : E} {b : S} {ρ : Rho} {μ μ' : Mu} {rv : RV} {K : Kt} (h : evE e ρ μ = some (rv, μ')) (k : wpS b (ρ.set i (some rv)) μ' K) : wpS (.seq (.set i e) b) ρ μ K := evE_ok e h k
end DL

namespace DL
open PySem PySem.Spec PyProof.Rows L2

/-- the slots of a law's loop: the source at the place 1 -/
def Ok (n : Nat) (μ : Mu) (ρ : Rho) : Prop := ρ.length = n ∧ ρ[1]? = some (some (.loc μ.length))
theorem turns {μ : Mu} {n : Nat} {body : Rho → Mu → Kt → Prop} {K : Kt} (h : ∀ o g ρ K, Src o → Ok n μ ρ → (∀ o' g' ρ', Src o' → Ok n μ ρ' → K.nx ρ' (St μ o' g')) → body ρ (St μ o g) K) (hK : ∀ o' g' ρ', Src o' → Ok n μ ρ' → K.nx ρ' (St μ o' g')) :
    ∀ (k : Nat) (i : Int) (o : O) (g : Mu) (ρ : Rho), Src o → Ok n μ ρ → forL (tgD (.nm 2)) body K (rngD i k) ρ (St μ o g)
  | 0, i, o, g, ρ, ho, hρ => hK _ _ _ ho hρ
  | k + 1, i, o, g, ρ, ho, hρ => by
    rw [rng_cons]
    refine forL_cons rfl fun K' hnx hct hbk hrt hex => ?_
    refine h o g _ K' ho ⟨by simp [hρ.1], by rw [List.getElem?_set_ne (by omega)]; exact hρ.2⟩ fun o' g' ρ' ho' hρ' => ?_
    rw [hnx]
    exact turns h hK k (i + 1) o' g' ρ' ho' hρ'
theorem Vk.put {ns : List Str} {c : Dc} {x : Str} {v : D} (h : Vk ns c) (hv : okE1 v) : Vk (ns ++ [x]) (pk c (.inr x) v) := by
  refine ⟨nd_pk h.nd, fun k => ?_, (OkV.put ⟨h.nd, h.vs⟩ hv).vs⟩
  rw [lk_pk]
  by_cases e : k = .inr x
  · rw [if_pos e]; simp [e]
  · rw [if_neg e, h.ks]
    constructor
    · rintro ⟨n, hn, q⟩; exact ⟨n, List.mem_append_left _ hn, q⟩
    · rintro ⟨n, hn, q⟩
      rcases List.mem_append.mp hn with z | z
      · exact ⟨n, z, q⟩
      · have : n = x := by simpa using z
        subst this; exact absurd q e
theorem seconds {ρ : Rho} {μ : Mu} {ps : Ps} {i j : Nat} {Q : QD} (hi : i < ρ.length) (hij : i ≠ j) (h : Q ((xsOf ps).map .str) μ) {ts : Rho → Mu → QB → Prop} {el : Rho → Mu → QV → Prop} (ht : ∀ ρ μ (Q : QB), Q true μ → ts ρ μ Q) (he : ∀ ρ μ (Q : QV) rv, ρ[i]? = some (some rv) → Q rv μ → el ρ μ Q) :
    compL (tgD (.tp [i, j])) ts el ρ (ps.map pr) μ Q := by
  refine compL_map (p := fun _ => true) (f := fun p => .str p.1) (fun p hp => ⟨_, rfl, fun Q q => ht _ _ _ q, fun _ Q' q => he _ _ _ _ ?_ q⟩) ?_
  · rw [List.getElem?_set_ne (fun z => hij z.symm), List.getElem?_set_self hi]
  · rw [filt_tt]
    unfold xsOf at h
    rw [List.map_map] at h
    exact h
def S_law : Spc where
  run := fun rs μ Q _ => ∃ cs : List Int, rs = [.dat (.lst (cs.map .int))] ∧ Q (.dat (.bl true)) μ
  mono := fun rs μ Q Q' X X' ⟨cs, h1, h2⟩ f g => ⟨cs, h1, f _ _ h2⟩
end DL

namespace DL
open PySem PySem.Spec PyProof.Rows L2 PySem.Builtin PySem.Builtin.Str

theorem repr_ch {c : Nat} (h : 97 ≤ c ∧ c ≤ 122) : reprChar 39 c = [c] := by
  have key : ∀ d : Fin 26, reprChar 39 (97 + d.val) = [97 + d.val] := by decide +kernel
  have := key ⟨c - 97, by omega⟩
  have e : 97 + (c - 97) = c := by omega
  simp only [e] at this
  exact this
theorem repr_fold : ∀ {l : List Nat}, (∀ c ∈ l, 97 ≤ c ∧ c ≤ 122) → ∀ acc : Array Nat, (l.foldl (fun out c => out ++ (reprChar 39 c).toArray) acc).toList = acc.toList ++ l
  | [], _, acc => by simp
  | c :: l, h, acc => by
    rw [List.foldl_cons, repr_fold fun d hd => h d (List.mem_cons_of_mem _ hd), repr_ch (h c List.mem_cons_self)]
    simp
theorem repr_low {x : Str} (h : low x) : (reprText x).cps.toList = 39 :: x.cps.toList ++ [39] := by
  have q : reprQuote x = 39 := by
    unfold reprQuote
    rw [if_neg]
    intro z
    rw [Bool.and_eq_true] at z
    have := h 39 (by simpa using z.1)
    omega
  unfold reprText
  rw [q]
  rw [Array.toList_push, ← Array.foldl_toList, repr_fold h]
  simp
theorem join_head (t : Str) (ts : List Str) : ∃ r, (Str.join ", " (t :: ts)).cps.toList = t.cps.toList ++ r := by
  cases ts with
  | nil => exact ⟨[], by simp [Str.join]⟩
  | cons u us => exact ⟨(", " ++ Str.join ", " (u :: us) : Str).cps.toList, by
      show (t ++ ", " ++ Str.join ", " (u :: us)).cps.toList = _
      have app : ∀ a b : Str, (a ++ b).cps.toList = a.cps.toList ++ b.cps.toList := fun a b => by
        show (a.cps ++ b.cps).toList = _
        simp
      rw [app, app, app, List.append_assoc]⟩
theorem str_app (a b : Str) : (a ++ b).cps.toList = a.cps.toList ++ b.cps.toList := by
  show (a.cps ++ b.cps).toList = _
  simp
theorem piled_le {k : Nat} : ∀ {ts : List Str}, (∀ t ∈ ts, t.length ≤ k) → piled ts ≤ ts.length * (k + 2)
  | [], _ => by simp [piled]
  | t :: ts, h => by
    have h1 := h t List.mem_cons_self
    have h2 := piled_le (k := k) (ts := ts) fun u hu => h u (List.mem_cons_of_mem _ hu)
    have e : piled (t :: ts) = t.length + 2 + piled ts := by simp [piled]
    rw [e, List.length_cons, Nat.succ_mul]
    omega
theorem pds_strs : ∀ ns : List Str, pdDs (ns.map .str) = some (ns.map .str)
  | [] => rfl
  | n :: ns => by
    show ((pdD (.str n)).bind fun p => (pdDs (ns.map D.str)).map (p :: ·)) = _
    rw [pds_strs ns]; rfl
theorem showAll_strs : ∀ ns : List Str, PyData.showableAll (ns.map .str) = true
  | [] => rfl
  | n :: ns => by
    show (PyData.showable (.str n) && PyData.showableAll (ns.map .str)) = true
    rw [showAll_strs ns]; rfl
theorem noDict_strs : ∀ ns : List Str, PyData.hasDictAll (ns.map .str) = false
  | [] => rfl
  | n :: ns => by
    show (PyData.hasDict (.str n) || PyData.hasDictAll (ns.map .str)) = false
    rw [noDict_strs ns]; rfl
theorem depth_strs : ∀ ns : List Str, PyData.depthAll (ns.map .str) ≤ 0
  | [] => by simp [PyData.depthAll]
  | n :: ns => by
    have := depth_strs ns
    simp only [List.map_cons, PyData.depthAll, PyData.depth]
    omega
theorem shownAll_strs : ∀ ns : List Str, PyData.shownAll (ns.map .str) = ns.map reprText
  | [] => rfl
  | n :: ns => by
    show PyData.shown (.str n) :: PyData.shownAll (ns.map .str) = _
    rw [shownAll_strs ns]; rfl
/-- str of a tuple of names -/
theorem sh_strs {ns : List Str} (h : ∀ n ∈ ns, Nm n) (hz : ns.length ≤ 1000) : shD (tupS ns) = some (tupleText (ns.map reprText)) := by
  have e1 : PyData.shown (.tuple (ns.map .str)) = tupleText (ns.map reprText) := by
    show tupleText (PyData.shownAll (ns.map .str)) = _
    rw [shownAll_strs]
  have hl : (tupleText (ns.map reprText)).length ≤ 16777216 := by
    have hb : ∀ t ∈ ns.map reprText, t.length ≤ 8 := by
      intro t ht
      obtain ⟨n, hn, rfl⟩ := List.mem_map.mp ht
      have := repr_low (h n hn).2.2
      have h2 := (h n hn).2.1
      have e : (reprText n).length = (reprText n).cps.toList.length := by show (reprText n).cps.size = _; simp
      have e2 : n.length = n.cps.toList.length := by show n.cps.size = _; simp
      rw [e, this]
      simp only [List.length_append, List.length_cons, List.length_nil]
      omega
    unfold tupleText
    rw [len_app, len_app]
    have a1 : Str.length "(" = 1 := rfl
    have a2 : (if (ns.map reprText).length == 1 then (",)" : Str) else (")" : Str)).length ≤ 2 := by split <;> decide
    have a2' : (Str.ofString (if (ns.map reprText).length == 1 then ",)" else ")" : String)).length ≤ 2 := by split <;> decide
    have a3 : (Str.join ", " (ns.map reprText)).length ≤ 10000 := by
      cases ns with
      | nil => decide
      | cons n ns =>
        have q := join_length_add ((n :: ns).map reprText) (by simp)
        have := piled_le hb
        rw [List.length_map] at this
        omega
    omega
  unfold shD
  have e2 : pdD (tupS ns) = some (.tuple (ns.map .str)) := by
    show (pdDs (ns.map D.str)).map PyData.tuple = _
    rw [pds_strs]; rfl
  rw [e2]
  simp only [Option.bind_some]
  rw [if_pos]
  · rw [e1]
  · refine ⟨showAll_strs ns, noDict_strs ns, ?_, by rw [e1]; exact hl⟩
    have := depth_strs ns
    simp only [PyData.depth]
    omega
def keyL (ns : List Str) : Str := keyT (tupS ns)
theorem keyL_eq {ns : List Str} (h : ∀ n ∈ ns, Nm n) (hz : ns.length ≤ 1000) : keyL ns = tupleText (ns.map reprText) := by
  show (shD (tupS ns)).getD "" = _
  rw [sh_strs h hz]; rfl
theorem keyL_head {n : Str} {ns : List Str} (h : ∀ m ∈ n :: ns, Nm m) (hz : (n :: ns).length ≤ 1000) : ∃ r, (keyL (n :: ns)).cps.toList = 40 :: 39 :: (n.cps.toList ++ 39 :: r) := by
  rw [keyL_eq h hz]
  unfold tupleText
  obtain ⟨r, e⟩ := join_head (reprText n) (ns.map reprText)
  rw [List.map_cons, str_app, str_app, e, repr_low (h n List.mem_cons_self).2.2]
  obtain ⟨t, ht⟩ : ∃ t, (Str.ofString (if ((reprText n :: ns.map reprText).length == 1) = true then ",)" else ")")).cps.toList = t := ⟨_, rfl⟩
  rw [ht]
  refine ⟨r ++ t, ?_⟩
  show [40] ++ _ ++ _ = _
  simp only [List.append_assoc, List.cons_append, List.nil_append]
/-- the order of texts behind a quote is that of the names -/
theorem le_names : ∀ {a b r r' : List Nat}, (∀ c ∈ a, 97 ≤ c) → (∀ c ∈ b, 97 ≤ c) → a ++ 39 :: r ≤ b ++ 39 :: r' → a ≤ b
  | [], b, r, r', _, _, _ => List.nil_le b
  | x :: a, [], r, r', h, _, e => by
    have hx := h x List.mem_cons_self
    rw [List.cons_append, List.nil_append, List.cons_le_cons_iff] at e
    omega
  | x :: a, y :: b, r, r', h, h', e => by
    rw [List.cons_append, List.cons_append, List.cons_le_cons_iff] at e
    rw [List.cons_le_cons_iff]
    rcases e with e | ⟨e, q⟩
    · exact .inl e
    · exact .inr ⟨e, le_names (fun c hc => h c (List.mem_cons_of_mem _ hc)) (fun c hc => h' c (List.mem_cons_of_mem _ hc)) q⟩
theorem keyL_le {m n : Str} {ms ns : List Str} (h : ∀ x ∈ m :: ms, Nm x) (h' : ∀ x ∈ n :: ns, Nm x) (hz : (m :: ms).length ≤ 1000) (hz' : (n :: ns).length ≤ 1000) (e : (keyL (m :: ms)).cps.toList ≤ (keyL (n :: ns)).cps.toList) : m.cps.toList ≤ n.cps.toList := by
  obtain ⟨r, e1⟩ := keyL_head h hz
  obtain ⟨r', e2⟩ := keyL_head h' hz'
  rw [e1, e2, List.cons_le_cons_iff] at e
  have e := e.resolve_left (Nat.lt_irrefl _)
  have e := e.2
  rw [List.cons_le_cons_iff] at e
  have e := (e.resolve_left (Nat.lt_irrefl _)).2
  exact le_names (fun c hc => ((h m List.mem_cons_self).2.2 c hc).1) (fun c hc => ((h' n List.mem_cons_self).2.2 c hc).1) e
/-- sorted by str -/
def sortL (cs : List (List Str)) : List (List Str) := cs.mergeSort fun a b => decide ((keyL a).cps.toList ≤ (keyL b).cps.toList)
theorem sortK_map (cs : List (List Str)) : sortK (cs.map tupS) = (sortL cs).map tupS :=
  (PySem.W.sort_maps (r := fun a b : List Str => decide ((keyL a).cps.toList ≤ (keyL b).cps.toList)) (s := fun a b : D => decide ((keyT a).cps.toList ≤ (keyT b).cps.toList)) tupS (l := cs) fun _ _ _ _ => rfl).symm
theorem sortL_perm (cs : List (List Str)) : (sortL cs).Perm cs := List.mergeSort_perm _ _
theorem keys_strs {cs : List (List Str)} (h : ∀ c ∈ cs, (∀ n ∈ c, Nm n) ∧ c.length ≤ 1000) : (cs.map tupS).all isKeyT = true := by
  rw [List.all_eq_true]
  intro d hd
  obtain ⟨c, hc, rfl⟩ := List.mem_map.mp hd
  show (shD (tupS c)).isSome = true
  rw [sh_strs (h c hc).1 (h c hc).2]; rfl
end DL

namespace DL
open PySem PySem.Spec PyProof.Rows L2

/-- no name in two classes -/
def Dj (cs : List (List Str)) : Prop := ∀ c ∈ cs, ∀ c' ∈ cs, ∀ x, x ∈ c → x ∈ c' → c = c'
theorem dj_of : ∀ {cs : List (List Str)}, cs.flatten.Nodup → Dj cs
  | [], _, c, hc, _, _, _, _, _ => by cases hc
  | a :: cs, h, c, hc, c', hc', x, hx, hx' => by
    rw [List.flatten_cons, List.nodup_append] at h
    obtain ⟨h1, h2, h3⟩ := h
    rcases List.mem_cons.mp hc with rfl | q
    · rcases List.mem_cons.mp hc' with rfl | q'
      · rfl
      · exact absurd rfl (h3 x hx x (List.mem_flatten.mpr ⟨c', q', hx'⟩))
    · rcases List.mem_cons.mp hc' with rfl | q'
      · exact absurd rfl (h3 x hx' x (List.mem_flatten.mpr ⟨c, q, hx⟩))
      · exact dj_of h2 c q c' q' x hx hx'
theorem nd_in {cs : List (List Str)} (h : cs.flatten.Nodup) {c : List Str} (hc : c ∈ cs) : c.Nodup := by
  induction cs with
  | nil => cases hc
  | cons a cs ih =>
    rw [List.flatten_cons, List.nodup_append] at h
    rcases List.mem_cons.mp hc with rfl | hc
    · exact h.1
    · exact ih h.2.1 hc
theorem find_dj {cs : List (List Str)} (h : Dj cs) {c : List Str} {x : Str} (hc : c ∈ cs) (hx : x ∈ c) : cs.find? (fun d => d.contains x) = some c := by
  cases e : cs.find? (fun d => d.contains x) with
  | none => exact absurd (List.contains_iff_mem.mpr hx) (by simpa using List.find?_eq_none.mp e c hc)
  | some d => exact congrArg some (h d (List.mem_of_find?_eq_some e) c hc x (List.contains_iff_mem.mp (by simpa using List.find?_some e)) hx)
theorem find_no {cs : List (List Str)} {x : Str} (h : ∀ c ∈ cs, x ∉ c) : cs.find? (fun d => d.contains x) = none := by
  rw [List.find?_eq_none]
  intro c hc z
  exact h c hc (List.contains_iff_mem.mp z)
def hd0 (c : List Str) (x : Str) : Str := c.head?.getD x
/-- the place of a name, by classes as they were handed in -/
def placeL (cs : List (List Str)) (x : Str) : Str := match cs.find? (fun d => d.contains x) with
  | some c => hd0 (sortS c) x
  | none => x
/-- the place of a name, by kept classes -/
def callL (ks : List (List Str)) (x : Str) : Str := match ks.find? (fun d => d.contains x) with
  | some c => hd0 c x
  | none => x
def dueL (cs : List (List Str)) : List (List Str) := (cs.filter fun c => decide (1 < c.length)).map sortS
def keptL (cs : List (List Str)) : List (List Str) := sortL (dueL cs)
theorem sortS_mem {c : List Str} {x : Str} : x ∈ sortS c ↔ x ∈ c := (sortS_p c).mem_iff
theorem sortS_len (c : List Str) : (sortS c).length = c.length := (sortS_p c).length_eq
theorem due_mem {cs : List (List Str)} {k : List Str} : k ∈ dueL cs ↔ ∃ c ∈ cs, 1 < c.length ∧ k = sortS c := by
  unfold dueL
  rw [List.mem_map]
  constructor
  · rintro ⟨c, hc, rfl⟩
    obtain ⟨h1, h2⟩ := List.mem_filter.mp hc
    exact ⟨c, h1, of_decide_eq_true h2, rfl⟩
  · rintro ⟨c, h1, h2, rfl⟩
    exact ⟨c, List.mem_filter.mpr ⟨h1, decide_eq_true h2⟩, rfl⟩
theorem kept_mem {cs : List (List Str)} {k : List Str} : k ∈ keptL cs ↔ ∃ c ∈ cs, 1 < c.length ∧ k = sortS c := (sortL_perm _).mem_iff.trans due_mem
theorem kept_dj {cs : List (List Str)} (h : Dj cs) : Dj (keptL cs) := by
  intro k hk k' hk' x hx hx'
  obtain ⟨c, hc, _, rfl⟩ := kept_mem.mp hk
  obtain ⟨c', hc', _, rfl⟩ := kept_mem.mp hk'
  rw [h c hc c' hc' x (sortS_mem.mp hx) (sortS_mem.mp hx')]
theorem hd0_mem {c : List Str} {x : Str} (h : x ∈ c) : hd0 c x ∈ c := by
  cases c with
  | nil => cases h
  | cons a c => exact List.mem_cons_self
theorem hd0_any {c : List Str} {x y : Str} (h : x ∈ c) : hd0 c x = hd0 c y := by
  cases c with
  | nil => cases h
  | cons a c => rfl
theorem place_in {cs : List (List Str)} (h : Dj cs) {c : List Str} {x : Str} (hc : c ∈ cs) (hx : x ∈ c) : placeL cs x = hd0 (sortS c) x := by
  unfold placeL
  rw [find_dj h hc hx]
theorem place_no {cs : List (List Str)} {x : Str} (h : ∀ c ∈ cs, x ∉ c) : placeL cs x = x := by
  unfold placeL
  rw [find_no h]
theorem place_mem {cs : List (List Str)} (h : Dj cs) {c : List Str} {x : Str} (hc : c ∈ cs) (hx : x ∈ c) : placeL cs x ∈ c := by
  rw [place_in h hc hx]
  exact sortS_mem.mp (hd0_mem (sortS_mem.mpr hx))
/-- the place that is told is the place that is due -/
theorem call_place {cs : List (List Str)} (h : Dj cs) (x : Str) : callL (keptL cs) x = placeL cs x := by
  by_cases e : ∃ c ∈ cs, x ∈ c
  · obtain ⟨c, hc, hx⟩ := e
    by_cases hl : 1 < c.length
    · rw [place_in h hc hx]
      unfold callL
      rw [find_dj (kept_dj h) (kept_mem.mpr ⟨c, hc, hl, rfl⟩) (sortS_mem.mpr hx)]
    · have e1 : c = [x] := by
        match c, hx, hl with
        | [y], hx, _ => rw [List.mem_singleton.mp hx]
        | _ :: _ :: _, _, hl => simp at hl
      have e2 := place_mem h hc hx
      rw [e1, List.mem_singleton] at e2
      rw [e2]
      unfold callL
      rw [find_no]
      intro k hk hx'
      obtain ⟨c', hc', hl', rfl⟩ := kept_mem.mp hk
      rw [h c hc c' hc' x hx (sortS_mem.mp hx')] at hl
      exact hl hl'
  · have e : ∀ c ∈ cs, x ∉ c := fun c hc hx => e ⟨c, hc, hx⟩
    rw [place_no e]
    unfold callL
    rw [find_no]
    intro k hk hx'
    obtain ⟨c', hc', hl', rfl⟩ := kept_mem.mp hk
    exact e c' hc' (sortS_mem.mp hx')
theorem any_shared {cs : List (List Str)} (x : Str) : ((keptL cs).any fun k => k.contains x) = (dueL cs).flatten.contains x := by
  rw [Bool.eq_iff_iff, List.any_eq_true, List.contains_iff_mem, List.mem_flatten]
  constructor
  · rintro ⟨k, hk, hx⟩
    exact ⟨k, (sortL_perm _).mem_iff.mp hk, List.contains_iff_mem.mp hx⟩
  · rintro ⟨k, hk, hx⟩
    exact ⟨k, (sortL_perm _).mem_iff.mpr hk, List.contains_iff_mem.mpr hx⟩
theorem same_place {cs : List (List Str)} (h : Dj cs) {x y : Str} : placeL cs x = placeL cs y ↔ x = y ∨ ∃ c ∈ cs, x ∈ c ∧ y ∈ c := by
  constructor
  · intro e
    by_cases ex : ∃ c ∈ cs, x ∈ c
    · obtain ⟨c, hc, hx⟩ := ex
      have hp := place_mem h hc hx
      rw [e] at hp
      by_cases ey : ∃ c ∈ cs, y ∈ c
      · obtain ⟨c', hc', hy⟩ := ey
        have := h c hc c' hc' _ hp (place_mem h hc' hy)
        subst this
        exact .inr ⟨c, hc, hx, hy⟩
      · rw [place_no fun c hc hy => ey ⟨c, hc, hy⟩] at hp
        exact .inr ⟨c, hc, hx, hp⟩
    · rw [place_no fun c hc hx => ex ⟨c, hc, hx⟩] at e
      by_cases ey : ∃ c ∈ cs, y ∈ c
      · obtain ⟨c', hc', hy⟩ := ey
        have := place_mem h hc' hy
        rw [← e] at this
        exact absurd ⟨c', hc', this⟩ ex
      · rw [place_no fun c hc hy => ey ⟨c, hc, hy⟩] at e
        exact .inl e
  · rintro (rfl | ⟨c, hc, hx, hy⟩)
    · rfl
    · rw [place_in h hc hx, place_in h hc hy]
      exact hd0_any (sortS_mem.mpr hx)
/-- <= of kept classes -/
def leL (ks js : List (List Str)) : Bool := ks.all fun own => js.any fun names => own.all fun x => names.contains x
theorem le_iff {cs ds : List (List Str)} : leL (keptL cs) (keptL ds) = true ↔ ∀ c ∈ cs, 1 < c.length → ∃ d ∈ ds, 1 < d.length ∧ ∀ z ∈ c, z ∈ d := by
  unfold leL
  simp only [List.all_eq_true, List.any_eq_true, List.contains_iff_mem]
  constructor
  · intro h c hc hl
    obtain ⟨k, hk, h⟩ := h (sortS c) (kept_mem.mpr ⟨c, hc, hl, rfl⟩)
    obtain ⟨d, hd, hl', rfl⟩ := kept_mem.mp hk
    exact ⟨d, hd, hl', fun z hz => sortS_mem.mp (h z (sortS_mem.mpr hz))⟩
  · intro h k hk
    obtain ⟨c, hc, hl, rfl⟩ := kept_mem.mp hk
    obtain ⟨d, hd, hl', h⟩ := h c hc hl
    exact ⟨sortS d, kept_mem.mpr ⟨d, hd, hl', rfl⟩, fun z hz => sortS_mem.mpr (h z (sortS_mem.mp hz))⟩
def finerL (ns : List Str) (cs ds : List (List Str)) : Bool := ns.all fun x => ns.all fun y => !(placeL cs x == placeL cs y && placeL ds x != placeL ds y)
theorem le_finer {ns : List Str} {cs ds : List (List Str)} (h : cs.flatten.Nodup) (h' : ds.flatten.Nodup) (hn : ∀ x ∈ cs.flatten, x ∈ ns) : leL (keptL cs) (keptL ds) = finerL ns cs ds := by
  have dc := dj_of h
  have dd := dj_of h'
  rw [Bool.eq_iff_iff, le_iff]
  unfold finerL
  simp only [List.all_eq_true, Bool.not_eq_true', Bool.and_eq_false_iff, beq_eq_false_iff_ne, bne_eq_false_iff_eq, ne_eq]
  constructor
  · intro q x hx y hy
    by_cases e : placeL cs x = placeL cs y
    · refine .inr ?_
      rcases (same_place dc).mp e with rfl | ⟨c, hc, h1, h2⟩
      · rfl
      · by_cases exy : x = y
        · rw [exy]
        · have hl : 1 < c.length := by
            match c, h1, h2 with
            | [z], h1, h2 => exact absurd ((List.mem_singleton.mp h1).trans (List.mem_singleton.mp h2).symm) exy
            | _ :: _ :: _, _, _ => simp
          obtain ⟨d, hd, _, q⟩ := q c hc hl
          exact (same_place dd).mpr (.inr ⟨d, hd, q x h1, q y h2⟩)
    · exact .inl e
  · intro q c hc hl
    have key : ∀ x ∈ c, ∀ y ∈ c, placeL ds x = placeL ds y := fun x hx y hy => by
      rcases q x (hn x (List.mem_flatten.mpr ⟨c, hc, hx⟩)) y (hn y (List.mem_flatten.mpr ⟨c, hc, hy⟩)) with e | e
      · exact absurd ((same_place dc).mpr (.inr ⟨c, hc, hx, hy⟩)) e
      · exact e
    have ndc := nd_in h hc
    obtain ⟨x, y, r, e⟩ : ∃ x y r, c = x :: y :: r := by
      match c, hl with
      | x :: y :: r, _ => exact ⟨x, y, r, rfl⟩
      | [_], hl => simp at hl
      | [], hl => simp at hl
    have nxy : x ≠ y := by
      rintro rfl
      rw [e] at ndc
      simp at ndc
    have hx : x ∈ c := by rw [e]; simp
    have hy : y ∈ c := by rw [e]; simp
    rcases (same_place dd).mp (key x hx y hy) with z | ⟨d, hd, h1, h2⟩
    · exact absurd z nxy
    · refine ⟨d, hd, ?_, fun z hz => ?_⟩
      · match d, h1, h2 with
        | [w], h1, h2 => exact absurd ((List.mem_singleton.mp h1).trans (List.mem_singleton.mp h2).symm) nxy
        | _ :: _ :: _, _, _ => simp
      · rcases (same_place dd).mp (key x hx z hz) with rfl | ⟨d', hd', h3, h4⟩
        · exact h1
        · rw [dd d hd d' hd' x h1 h3]; exact h4
theorem le_nil (js : List (List Str)) : leL [] js = true := rfl
theorem le_self (ks : List (List Str)) : leL ks ks = true := by
  unfold leL
  simp only [List.all_eq_true, List.any_eq_true, List.contains_iff_mem]
  exact fun k hk => ⟨k, hk, fun x hx => hx⟩
/-- names of letters, few in a class -/
def ClN (cs : List (List Str)) : Prop := ∀ c ∈ cs, (∀ n ∈ c, Nm n) ∧ c.length ≤ 1000
theorem ClN.due {cs : List (List Str)} (h : ClN cs) : ClN (dueL cs) := by
  intro k hk
  obtain ⟨c, hc, _, rfl⟩ := due_mem.mp hk
  exact ⟨fun n hn => (h c hc).1 n (sortS_mem.mp hn), by rw [sortS_len]; exact (h c hc).2⟩
theorem ClN.kept {cs : List (List Str)} (h : ClN cs) : ClN (keptL cs) := fun k hk => h.due k ((sortL_perm _).mem_iff.mp hk)
theorem key_inj {ks : List (List Str)} (h : ClN ks) (dj : Dj ks) (ne : ∀ k ∈ ks, k ≠ []) {a b : List Str} (ha : a ∈ ks) (hb : b ∈ ks) (e1 : (keyL a).cps.toList ≤ (keyL b).cps.toList) (e2 : (keyL b).cps.toList ≤ (keyL a).cps.toList) : a = b := by
  match a, b, ne a ha, ne b hb with
  | x :: a, y :: b, _, _ =>
    have z1 := keyL_le (h _ ha).1 (h _ hb).1 (h _ ha).2 (h _ hb).2 e1
    have z2 := keyL_le (h _ hb).1 (h _ ha).1 (h _ hb).2 (h _ ha).2 e2
    have := le_str_antisymm (decide_eq_true z1) (decide_eq_true z2)
    subst this
    exact dj _ ha _ hb x List.mem_cons_self List.mem_cons_self
theorem sortL_sorted (a : List (List Str)) : (sortL a).Pairwise fun x y => decide ((keyL x).cps.toList ≤ (keyL y).cps.toList) = true :=
  List.pairwise_mergeSort (fun a b c => le_str_trans (keyL a) (keyL b) (keyL c)) (fun a b => le_str_total (keyL a) (keyL b)) a
theorem sortL_congr {a b : List (List Str)} (h : a.Perm b) (n : ClN a) (dj : Dj a) (ne : ∀ k ∈ a, k ≠ []) : sortL a = sortL b :=
  List.Perm.eq_of_pairwise (fun x y hx hy h1 h2 => key_inj n dj ne ((sortL_perm a).mem_iff.mp hx) (h.mem_iff.mpr ((sortL_perm b).mem_iff.mp hy)) (of_decide_eq_true h1) (of_decide_eq_true h2)) (sortL_sorted a) (sortL_sorted b) ((sortL_perm a).trans (h.trans (sortL_perm b).symm))
theorem due_dj {cs : List (List Str)} (h : Dj cs) : Dj (dueL cs) := fun k hk k' hk' => kept_dj h k ((sortL_perm _).mem_iff.mpr hk) k' ((sortL_perm _).mem_iff.mpr hk')
theorem due_ne {cs : List (List Str)} : ∀ k ∈ dueL cs, k ≠ [] := by
  intro k hk e
  obtain ⟨c, _, hl, rfl⟩ := due_mem.mp hk
  have := sortS_len c
  rw [e] at this
  simp at this
  omega
theorem nd_of_dj : ∀ {ks : List (List Str)}, ks.flatten.Nodup → (∀ k ∈ ks, k ≠ []) → ks.Nodup
  | [], _, _ => List.nodup_nil
  | k :: ks, h, ne => by
    rw [List.flatten_cons, List.nodup_append] at h
    refine List.nodup_cons.mpr ⟨fun z => ?_, nd_of_dj h.2.1 fun k hk => ne k (List.mem_cons_of_mem _ hk)⟩
    match k, ne k List.mem_cons_self with
    | x :: r, _ => exact h.2.2 x List.mem_cons_self x (List.mem_flatten.mpr ⟨_, z, List.mem_cons_self⟩) rfl
theorem filter_flat (p : List Str → Bool) : ∀ {cs : List (List Str)}, cs.flatten.Nodup → (cs.filter p).flatten.Nodup
  | [], _ => List.nodup_nil
  | c :: cs, h => by
    rw [List.flatten_cons, List.nodup_append] at h
    rw [List.filter_cons]
    split
    · rw [List.flatten_cons, List.nodup_append]
      refine ⟨h.1, filter_flat p h.2.1, fun a ha b hb => h.2.2 a ha b ?_⟩
      obtain ⟨d, hd, hb⟩ := List.mem_flatten.mp hb
      exact List.mem_flatten.mpr ⟨d, (List.mem_filter.mp hd).1, hb⟩
    · exact filter_flat p h.2.1
theorem map_flat : ∀ {cs : List (List Str)}, cs.flatten.Nodup → (cs.map sortS).flatten.Nodup
  | [], _ => List.nodup_nil
  | c :: cs, h => by
    rw [List.flatten_cons, List.nodup_append] at h
    rw [List.map_cons, List.flatten_cons, List.nodup_append]
    refine ⟨(sortS_p c).nodup_iff.mpr h.1, map_flat h.2.1, fun a ha b hb => h.2.2 a (sortS_mem.mp ha) b ?_⟩
    obtain ⟨d, hd, hb⟩ := List.mem_flatten.mp hb
    obtain ⟨e, he, rfl⟩ := List.mem_map.mp hd
    exact List.mem_flatten.mpr ⟨e, he, sortS_mem.mp hb⟩
theorem due_nd {cs : List (List Str)} (h : cs.flatten.Nodup) : (dueL cs).Nodup := nd_of_dj (map_flat (filter_flat _ h)) due_ne
theorem le_anti {cs ds : List (List Str)} (h : cs.flatten.Nodup) (h' : ds.flatten.Nodup) (a : leL (keptL cs) (keptL ds) = true) (b : leL (keptL ds) (keptL cs) = true) : ∀ k ∈ dueL cs, k ∈ dueL ds := by
  intro k hk
  obtain ⟨c, hc, hl, rfl⟩ := due_mem.mp hk
  obtain ⟨d, hd, hl', q⟩ := le_iff.mp a c hc hl
  obtain ⟨c', hc', _, q'⟩ := le_iff.mp b d hd hl'
  have e : c = c' := by
    match c, hl with
    | x :: r, _ => exact dj_of h _ hc _ hc' x List.mem_cons_self (q' x (q x List.mem_cons_self))
  subst e
  refine due_mem.mpr ⟨d, hd, hl', sortS_perm ?_⟩
  exact (List.perm_ext_iff_of_nodup (nd_in h hc) (nd_in h' hd)).mpr fun x => ⟨q x, q' x⟩
theorem eq_le {cs ds : List (List Str)} (h : cs.flatten.Nodup) (h' : ds.flatten.Nodup) (n : ClN cs) : decide (keptL cs = keptL ds) = (leL (keptL cs) (keptL ds) && leL (keptL ds) (keptL cs)) := by
  rw [Bool.eq_iff_iff, decide_eq_true_iff, Bool.and_eq_true]
  constructor
  · intro e
    rw [e]
    exact ⟨le_self _, le_self _⟩
  · rintro ⟨a, b⟩
    refine sortL_congr ?_ n.due (due_dj (dj_of h)) due_ne
    exact (List.perm_ext_iff_of_nodup (due_nd h) (due_nd h')).mpr fun k => ⟨le_anti h h' a b k, le_anti h' h b a k⟩
theorem kept_rev {cs : List (List Str)} (h : cs.flatten.Nodup) (n : ClN cs) : keptL cs.reverse = keptL cs := by
  refine (sortL_congr ?_ n.due (due_dj (dj_of h)) due_ne).symm
  unfold dueL
  exact ((List.reverse_perm cs).symm.filter _).map _
theorem heads_sorted {cs : List (List Str)} (n : ClN cs) (x : Str) : sortS ((keptL cs).map fun k => hd0 k x) = (keptL cs).map fun k => hd0 k x := by
  refine List.mergeSort_of_pairwise ?_
  rw [List.pairwise_map]
  refine (sortL_sorted (dueL cs)).imp_of_mem fun {a b} ha hb e => ?_
  have ne : ∀ k ∈ keptL cs, k ≠ [] := fun k hk => due_ne k ((sortL_perm _).mem_iff.mp hk)
  match a, b, ne a ha, ne b hb with
  | x :: a, y :: b, _, _ => exact decide_eq_true (keyL_le (n.kept _ ha).1 (n.kept _ hb).1 (n.kept _ ha).2 (n.kept _ hb).2 (of_decide_eq_true e))
end DL

namespace DL.K28
open PySem PySem.Spec PyProof.Rows L2

def shO (ks : List (List Str)) : D := .obj "Sharing" [("kept_classes", .lst (ks.map tupS))]
/-- a thing that may be handed in as a class -/
def okC (d : D) : Prop := (tyD d).isSome = true ∧ ∀ xs, itemsD d = some xs → (∀ x ∈ xs, plainD x) ∧ xs.length ≤ 1000
def txs (d : D) : List Str := (txtsD d).getD []
def isCls (es : List Str) (d : D) : Bool := match itemsD d with
  | none => false
  | some xs => xs.all isName && (decide ((setTs (txs d)).length = (txs d).length) && !((txs d).any fun n => es.contains n))
theorem names_strs : ∀ {xs : List D}, xs.all isName = true → ∃ ss : List Str, xs = ss.map .str ∧ strsD xs = some ss ∧ ∀ n ∈ ss, Nm n
  | [], _ => ⟨[], rfl, rfl, fun n h => by cases h⟩
  | x :: xs, h => by
    rw [List.all_cons, Bool.and_eq_true] at h
    obtain ⟨ss, rfl, e, hn⟩ := names_strs h.2
    cases x <;> first | (cases h.1; done) | skip
    rename_i z
    refine ⟨z :: ss, rfl, by rw [← List.map_cons]; exact strs_map _, fun n hm => ?_⟩
    rcases List.mem_cons.mp hm with rfl | hm
    · have h1 := h.1
      simp only [isName, Bool.and_eq_true, decide_eq_true_eq, List.all_eq_true] at h1
      exact ⟨h1.1.1, h1.1.2, h1.2⟩
    · exact hn n hm
def S_is_class : Spc where
  run := fun rs μ Q _ => ∃ (d : D) (r : RV) (es : List Str), rs = [.dat d, r] ∧ vw μ r = some (.lst (es.map .str)) ∧ okC d ∧ Q (.dat (.bl (isCls es d))) μ
  mono := fun rs μ Q Q' X X' ⟨d, r, es, h1, h2, h3, h4⟩ f g => ⟨d, r, es, h1, h2, h3, f _ _ h4⟩
def N_is_class : List Str := ["thing", "earlier", "name"]
def A_is_class : S :=
    (.seq (.ite (.or (.not (.v (.isi (.var 0) .lstup))) (.one (.not (.v (.bi .all (.ref (.lc (.call "is_name" S_is_name (.cons (.var 2) .nil)) (.nm 2) (.seq (.var 0)) .tt) .nil)))))) (.seq (.ret (.cst (.bl false)))
    .skip)
    .skip)
    (.seq (.ret (.and (.cmp .eq (.lenset (.var 0)) (.bi .len (.ref (.var 0) .nil))) (.one (.not (.bi .any (.ref (.lc (.cmp .inn (.var 2) (.var 1)) (.nm 2) (.seq (.var 0)) .tt) .nil))))))
    .skip))
theorem w_is_class : ∀ rs μ Q X, S_is_class.run rs μ Q X → wpS A_is_class (rs.map some ++ List.replicate (N_is_class.length - rs.length) none) μ (fin false μ.length Q X) := by
  rintro rs μ Q X ⟨d, r, es, rfl, hr, ⟨h1, h2⟩, hQ⟩
  unfold A_is_class
  have lt : isiD .lstup d = some (itemsD d).isSome := by cases d <;> first | rfl | (cases h1; done)
  cases hx : itemsD d with
  | none =>
    rw [hx] at lt
    have e : isCls es d = false := by unfold isCls; rw [hx]
    rw [e] at hQ
    simp [↓wpS, ↓wpT, ↓wpE, ↓wpA, ↓wpI, ↓opt, N_is_class, lt]
    exact hQ
  | some xs =>
    rw [hx] at lt
    have sq : seqD d = some xs := by cases d <;> first | (cases hx; done) | skip <;> (cases hx; rfl)
    have ln : biD .len [d] = some (.int xs.length) := by cases d <;> first | (cases hx; done) | skip <;> (cases hx; rfl)
    have tx : txtsD d = strsD xs := by cases d <;> first | (cases hx; done) | skip <;> (cases hx; rfl)
    obtain ⟨hp, hz⟩ := h2 xs hx
    simp [↓wpS, ↓wpT, ↓wpE, ↓wpA, ↓wpI, ↓opt, N_is_class, lt, sq]
    refine compL_pure (p := fun _ => true) (f := fun x => .bl (isName x)) (fun x hm => ⟨_, rfl, fun _ q => q, fun _ Q' q => ?_⟩) ?_
    · simp [wipeR, Tg.slots, hp x hm]
      exact q
    · have e : ((xs.filter fun _ => true).map fun x => D.bl (isName x)) = (xs.map isName).map D.bl := by rw [filt_tt, List.map_map]; rfl
      rw [e, bls_map]
      simp only [Option.map_some, List.all_map, opt_some]
      by_cases ha : xs.all isName = true
      · obtain ⟨ss, rfl, es', hn⟩ := names_strs ha
        have ha' : (List.map D.str ss).all (id ∘ isName) = true := ha
        have et : txs d = ss := by unfold txs; rw [tx, es']; rfl
        have hl : ss.length < 4000 := by rw [List.length_map] at hz; omega
        rw [List.length_map] at ln
        have ha3 : ∀ x, x ∈ ss → isName (.str x) = true := fun x hx => name_ok (hn x hx)
        simp [tx, es', hl, ln, eq_int]
        rw [if_pos ha3]
        have fin : ∀ b, isCls es d = b → Q (.dat (.bl b)) μ := fun b e => by rw [← e]; exact hQ
        have ei : isCls es d = (decide ((setTs ss).length = ss.length) && !(ss.any fun n => es.contains n)) := by
          unfold isCls
          rw [hx]
          simp only [ha, et, Bool.true_and]
        by_cases hc : (setTs ss).length = ss.length
        · have hc' : ((setTs ss).length : Int) = (ss.length : Int) := by rw [hc]
          simp [hc, sq]
          refine compL_map (as := ss) (g := D.str) (p := fun _ => true) (f := fun x => .bl (es.contains x)) (fun x hm => ⟨_, rfl, fun _ q => q, fun _ Q' q => ?_⟩) ?_
          · simp [wipeR, Tg.slots, hr, in_strs]
            simpa using q
          · have e : ((ss.filter fun _ => true).map fun x => D.bl (es.contains x)) = (ss.map fun x => es.contains x).map D.bl := by rw [filt_tt, List.map_map]; rfl
            rw [e, bls_map]
            simp
            refine fin _ ?_
            rw [ei]
            simp [hc]
        · have hc' : ¬ ((setTs ss).length : Int) = (ss.length : Int) := by omega
          simp [hc, hc']
          refine fin _ ?_
          rw [ei]
          simp [hc]
      · have ha' : xs.all (id ∘ isName) = false := by simpa using ha
        have e : isCls es d = false := by unfold isCls; rw [hx]; simp only [Bool.eq_false_iff.mpr ha, Bool.false_and]
        rw [e] at hQ
        have ha2 : ¬ ∀ x, x ∈ xs → isName x = true := fun z => ha (List.all_eq_true.mpr z)
        simp [ha2]
        exact hQ
/-- the first place at which no class may stand; es: the names that came -/
def badAt : List D → List Str → Nat → Option Nat
  | [], _, _ => none
  | d :: ds, es, i => if isCls es d = true then badAt ds (es ++ txs d) (i + 1) else some i
def keptD (ds : List D) : List (List Str) := sortL (((ds.map txs).filter fun c => decide (1 < c.length)).map fun c => sortS (setTs c))
def S_Sharing_init : Spc where
  run := fun rs μ Q X => ∃ (l : Nat) (ds : List D), rs = .loc l :: ds.map RV.dat ∧ μ[l]? = some (.ins "Sharing" []) ∧ (∀ d ∈ ds, okC d) ∧ ds.length ≤ 1000 ∧
    (∀ i, badAt ds [] 0 = some i → X ⟨"BadSharing", [("at", .int i)]⟩ μ) ∧
    (badAt ds [] 0 = none → Q (.dat .non) (μ.set l (.ins "Sharing" [("kept_classes", .lst ((keptD ds).map tupS))])))
  mono := fun rs μ Q Q' X X' ⟨l, ds, h1, h2, h3, h4, h5, h6⟩ f g => ⟨l, ds, h1, h2, h3, h4, fun i a => g _ _ (h5 i a), fun a => f _ _ (h6 a)⟩
def N_Sharing_init : List Str := ["self", "classes", "earlier", "at", "names"]
def B_Sharing_init_0 : S :=
    (.seq (.ite (.not (.v (.call "is_class" S_is_class (.cons (.var 4) (.ref (.var 2) .nil))))) (.seq (.rse "BadSharing" ["at"] (.cons (.var 3) .nil))
    .skip)
    .skip)
    (.seq (.exp (.ext (.var 2) (.var 4)))
    .skip))
def A_Sharing_init : S :=
    (.seq (.set 2 (.lstO .nil))
    (.seq (.forr (.tp [3, 4]) (.enm (.var 1)) B_Sharing_init_0)
    (.seq (.setfl (.var 0) "Sharing" "kept_classes" (.sortK (.lc (.bi .tuple (.ref (.call "each_once" S_each_once (.cons (.var 4) .nil)) .nil)) (.nm 4) (.seq (.var 1)) (.v (.cmp .gt (.bi .len (.ref (.var 4) .nil)) (.cst (.int 1)))))))
    .skip)))
theorem cls_of {es : List Str} {d : D} (h : isCls es d = true) : ∃ ss : List Str, (d = .lst (ss.map .str) ∨ d = .tup (ss.map .str)) ∧ txs d = ss ∧ (∀ n ∈ ss, Nm n) := by
  unfold isCls at h
  cases hx : itemsD d with
  | none => rw [hx] at h; cases h
  | some xs =>
    rw [hx] at h
    simp only [Bool.and_eq_true] at h
    obtain ⟨ss, rfl, e, hn⟩ := names_strs h.1
    cases d <;> first | (cases hx; done) | skip
    · cases hx
      exact ⟨ss, .inl rfl, by unfold txs; rw [txts_lst]; rfl, hn⟩
    · cases hx
      exact ⟨ss, .inr rfl, by unfold txs; rw [txts_tup]; rfl, hn⟩
theorem init_loop {ds0 : List D} {μ : Mu} {rl : RV} : ∀ (ds : List D) (es : List Str) (i : Nat) (r3 r4 : Option RV) (K : Kt), (∀ d ∈ ds, okC d) → es.length + ds.length * 1000 ≤ 10000000 →
    (∀ j : Nat, badAt ds es i = some j → ∀ ρ' g, K.ex ⟨"BadSharing", [("at", .int j)]⟩ ρ' (μ ++ g)) → (badAt ds es i = none → ∀ es' r3 r4, K.nx [some rl, some (.dat (.tup ds0)), some (.loc μ.length), r3, r4] (μ ++ [.lst es'])) →
      forL (tgD (.tp [3, 4])) (fun ρ μ K => wpS B_Sharing_init_0 ρ μ K) K (enumD i ds) [some rl, some (.dat (.tup ds0)), some (.loc μ.length), r3, r4] (μ ++ [.lst (es.map .str)])
  | [], es, i, r3, r4, K, _, _, _, hn => hn rfl _ _ _
  | d :: ds, es, i, r3, r4, K, hp, hz, hx, hn => by
    refine forL_cons (ρ' := [some rl, some (.dat (.tup ds0)), some (.loc μ.length), some (.dat (.int i)), some (.dat d)]) rfl fun K' hnx hct hbk hrt hex => ?_
    unfold B_Sharing_init_0
    simp [↓wpS, ↓wpT, ↓wpE, ↓wpA, ↓wpI, ↓opt]
    refine ⟨d, _, es, rfl, by simp, hp d List.mem_cons_self, ?_⟩
    cases hc : isCls es d with
    | false =>
      simp [hex]
      exact hx i (by simp [badAt, hc]) _ _
    | true =>
      obtain ⟨ss, hd, et, hN⟩ := cls_of hc
      have ei : itemsD d = some (ss.map .str) := by rcases hd with rfl | rfl <;> rfl
      have hl : ss.length ≤ 1000 := by have := ((hp d List.mem_cons_self).2 _ ei).2; rw [List.length_map] at this; exact this
      rw [List.length_cons, Nat.succ_mul] at hz
      have hlen : es.length + ss.length ≤ 16777216 := by omega
      simp [ei, hlen, hnx]
      have e' : (es.map D.str) ++ (ss.map D.str) = (es ++ ss).map D.str := by simp
      rw [e']
      refine init_loop ds (es ++ ss) (i + 1) _ _ K (fun d hd => hp d (List.mem_cons_of_mem _ hd)) (by rw [List.length_append]; omega) (fun j hj => hx j (by simp [badAt, hc, et, hj])) fun hj => hn (by simp [badAt, hc, et, hj])
theorem good_all : ∀ {ds : List D} {es : List Str} {i : Nat}, badAt ds es i = none → ∀ d ∈ ds, ∃ es', isCls es' d = true
  | [], _, _, _, d, hd => by cases hd
  | e :: ds, es, i, h, d, hd => by
    unfold badAt at h
    split at h
    · rename_i hc
      rcases List.mem_cons.mp hd with rfl | hd
      · exact ⟨es, hc⟩
      · exact good_all h d hd
    · cases h
theorem w_Sharing_init : ∀ rs μ Q X, S_Sharing_init.run rs μ Q X → ∃ (ws : List RV) (ds : List D), rs = ws ++ ds.map RV.dat ∧ ws.length = 1 ∧ ds.length ≤ 16777216 ∧
    wpS A_Sharing_init ((ws ++ [RV.dat (.tup ds)]).map some ++ List.replicate (N_Sharing_init.length - (1 + 1)) none) μ (fin false μ.length Q X) := by
  rintro rs μ Q X ⟨l, ds, rfl, hl, hp, hz, h1, h2⟩
  refine ⟨[.loc l], ds, rfl, rfl, by omega, ?_⟩
  have hlt : l < μ.length := (List.getElem?_eq_some_iff.mp hl).1
  unfold A_Sharing_init
  simp [↓wpS, ↓wpT, ↓wpE, ↓wpA, ↓wpI, ↓opt, N_Sharing_init]
  refine init_loop (ds0 := ds) (rl := .loc l) ds [] 0 _ _ _ hp (by simp; omega) (fun j hj ρ' g => ?_) fun hj es' r3 r4 => ?_
  · simp [List.take_left]
    exact h1 j hj
  · have hg := good_all hj
    have g4 : ∀ d ∈ ds, ∃ ss : List Str, (d = .lst (ss.map .str) ∨ d = .tup (ss.map .str)) ∧ txs d = ss ∧ (∀ n ∈ ss, Nm n) := fun d hd => let ⟨_, q⟩ := hg d hd; cls_of q
    simp [↓wpS, ↓wpT, ↓wpE, ↓wpA, ↓wpI, ↓opt, seqD]
    refine compL_pure (p := fun d => decide (1 < (txs d).length)) (f := fun d => tupS (sortS (setTs (txs d)))) (fun d hd => ?_) ?_
    · obtain ⟨ss, hd', et, hN⟩ := g4 d hd
      have hl : ss.length ≤ 1000 := by
        have ei : itemsD d = some (ss.map .str) := by rcases hd' with rfl | rfl <;> rfl
        have := ((hp d hd).2 _ ei).2; rw [List.length_map] at this; exact this
      have tx : txtsD d = some ss := by rcases hd' with rfl | rfl <;> simp
      have ln : biD .len [d] = some (.int ss.length) := by rcases hd' with rfl | rfl <;> simp
      refine ⟨_, rfl, fun Q' q => ?_, fun _ Q' q => ?_⟩
      · simp [wipeR, Tg.slots, ln]
        rw [et] at q
        have e : decide ((1 : Int) < (ss.length : Int)) = decide (1 < ss.length) := by rw [decide_eq_decide]; omega
        rw [e]; exact q
      · simp [wipeR, Tg.slots]
        refine ⟨d, ss, rfl, tx, by omega, ?_⟩
        rw [et] at q
        simp
        exact q
    · have e : ((ds.filter fun d => decide (1 < (txs d).length)).map fun d => tupS (sortS (setTs (txs d)))) = (((ds.map txs).filter fun c => decide (1 < c.length)).map fun c => sortS (setTs c)).map tupS := by
        rw [List.map_map, List.filter_map, List.map_map]
        rfl
      rw [e]
      have cn : ClN (((ds.map txs).filter fun c => decide (1 < c.length)).map fun c => sortS (setTs c)) := by
        intro k hk
        obtain ⟨c, hc, rfl⟩ := List.mem_map.mp hk
        obtain ⟨d, hd, rfl⟩ := List.mem_map.mp (List.mem_filter.mp hc).1
        obtain ⟨ss, hd', et, hN⟩ := g4 d hd
        have ei : itemsD d = some (ss.map .str) := by rcases hd' with rfl | rfl <;> rfl
        have hl := ((hp d hd).2 _ ei).2
        rw [List.length_map] at hl
        rw [et]
        refine ⟨fun n hn => hN n (setTs_mem.mp (sortS_mem.mp hn)), ?_⟩
        rw [sortS_len]
        exact Nat.le_trans (setTs_len ss) hl
      have ks := keys_strs cn
      rw [List.all_eq_true] at ks
      have hg2 : (μ ++ [O.lst es'])[l]? = some (.ins "Sharing" []) := by rw [List.getElem?_append_left hlt]; exact hl
      have hs2 : ∀ o, ((μ ++ [O.lst es']).set l o).take μ.length = μ.set l o := fun o => by rw [List.set_append_left _ _ hlt, ← List.length_set (i := l) (a := o), List.take_left]
      refine ⟨ks, ?_⟩
      rw [sortK_map]
      simp [hg2, putD, hs2]
      exact h2 hj
def S_Sharing : Spc := mkS false "Sharing" S_Sharing_init
end DL.K28

namespace DL.K28
open PySem PySem.Spec PyProof.Rows L2

@[simp] theorem isOf_sh {m : Str} {μ : Mu} {ks : List (List Str)} : isOf "Sharing" m μ (.dat (shO ks)) ↔ (m == ("kept_classes" : Str)) = false := by
  show ("Sharing" : Str) = "Sharing" ∧ List.lookup m [("kept_classes", D.lst (ks.map tupS))] = none ↔ _
  rw [List.lookup_cons]
  cases h : m == ("kept_classes" : Str) <;> simp
@[simp] theorem ns1 : (("classes" : Str) == "kept_classes") = false := by decide
@[simp] theorem ns2 : (("__call__" : Str) == "kept_classes") = false := by decide
@[simp] theorem ns3 : (("__contains__" : Str) == "kept_classes") = false := by decide
@[simp] theorem ns4 : (("__eq__" : Str) == "kept_classes") = false := by decide
@[simp] theorem ns5 : (("__le__" : Str) == "kept_classes") = false := by decide
@[simp] theorem ns6 : (("__class__" : Str) == "kept_classes") = false := by decide
theorem tup_inj {a b : List Str} : tupS a = tupS b ↔ a = b := by
  unfold tupS
  constructor
  · intro h
    have h := D.tup.inj h
    exact (List.map_inj_right fun a b h => D.str.inj h).mp h
  · exact fun h => by rw [h]
theorem sh_inj {a b : List (List Str)} (h : shO a = shO b) : a = b := by
  unfold shO at h
  simp at h
  exact (List.map_inj_right fun a b h => tup_inj.mp h).mp h
theorem in_tup {x : Str} {ns : List Str} : cmpD .inn (.str x) (tupS ns) = some (ns.contains x) := by
  unfold tupS
  rw [inn_tup, in_strs]
def S_Sharing_call : Spc where
  run := fun rs μ Q X => ∃ (ks : List (List Str)) (d : D), rs = [.dat (shO ks), .dat d] ∧ plainD d ∧ ks.length ≤ 1000 ∧ (∀ x, d = .str x → isName d = true → Q (.dat (.str (callL ks x))) μ) ∧ (isName d = false → X ⟨"NoName", [("name", d)]⟩ μ)
  mono := fun rs μ Q Q' X X' ⟨ks, d, h1, h2, h3, h4, h5⟩ f g => ⟨ks, d, h1, h2, h3, fun x e n => f _ _ (h4 x e n), fun n => g _ _ (h5 n)⟩
def N_Sharing_call : List Str := ["self", "name", "names"]
def B_Sharing_call_0 : S :=
    (.seq (.ite (.v (.cmp .inn (.var 1) (.var 2))) (.seq (.ret (.ix (.var 2) (.cst (.int 0))))
    .skip)
    .skip)
    .skip)
def A_Sharing_call : S :=
    (.seq (.ite (.not (.v (.call "is_name" S_is_name (.cons (.var 1) .nil)))) (.seq (.rse "NoName" ["name"] (.cons (.var 1) .nil))
    .skip)
    .skip)
    (.seq (.forr (.nm 2) (.seq (.fld (.var 0) "Sharing" "kept_classes")) B_Sharing_call_0)
    (.seq (.ret (.var 1))
    .skip)))
theorem call_loop {x : Str} {r0 : Option RV} {μ : Mu} : ∀ (ks : List (List Str)) (r2 : Option RV) (K : Kt), (∀ c, ks.find? (fun d => d.contains x) = some c → K.rt (.dat (.str (hd0 c x))) μ) → (ks.find? (fun d => d.contains x) = none → ∀ r2, K.nx [r0, some (.dat (.str x)), r2] μ) →
    forL (tgD (.nm 2)) (fun ρ μ K => wpS B_Sharing_call_0 ρ μ K) K (ks.map tupS) [r0, some (.dat (.str x)), r2] μ
  | [], r2, K, _, hn => hn rfl r2
  | k :: ks, r2, K, hr, hn => by
    refine forL_cons (ρ' := [r0, some (.dat (.str x)), some (.dat (tupS k))]) rfl fun K' hnx hct hbk hrt hex => ?_
    unfold B_Sharing_call_0
    rw [List.find?_cons] at hr hn
    simp [↓wpS, ↓wpT, ↓wpE, ↓wpA, ↓wpI, ↓opt, in_tup]
    cases hc : k.contains x with
    | true =>
      rw [hc] at hr
      have hm : x ∈ k := List.contains_iff_mem.mp hc
      match k, hm with
      | a :: k, hm =>
        simp [hm, tupS, hrt]
        exact hr _ rfl
    | false =>
      rw [hc] at hr hn
      have hm : x ∉ k := fun z => by rw [List.contains_iff_mem.mpr z] at hc; cases hc
      simp [hm, hnx]
      exact call_loop ks _ K hr hn
theorem w_Sharing_call : ∀ rs μ Q X, S_Sharing_call.run rs μ Q X → wpS A_Sharing_call (rs.map some ++ List.replicate (N_Sharing_call.length - rs.length) none) μ (fin false μ.length Q X) := by
  rintro rs μ Q X ⟨ks, d, rfl, hd, hz, h1, h2⟩
  unfold A_Sharing_call
  simp [↓wpS, ↓wpT, ↓wpE, ↓wpA, ↓wpI, ↓opt, N_Sharing_call, hd]
  cases hc : isName d with
  | false => simp; exact h2 hc
  | true =>
    cases d <;> first | (cases hc; done) | skip
    rename_i x
    simp [shO, List.lookup, seqD]
    refine call_loop ks _ _ (fun c e => ?_) fun e r2 => ?_
    · simp
      have := h1 x rfl hc
      unfold callL at this
      rw [e] at this
      exact this
    · simp [↓wpS, ↓wpT, ↓wpE, ↓wpA, ↓wpI, ↓opt]
      have := h1 x rfl hc
      unfold callL at this
      rw [e] at this
      exact this
def S_Sharing_classes : Spc where
  run := fun rs μ Q _ => ∃ ks, rs = [.dat (shO ks)] ∧ Q (.dat (.lst (ks.map tupS))) μ
  mono := fun rs μ Q Q' X X' ⟨ks, h1, h2⟩ f g => ⟨ks, h1, f _ _ h2⟩
def N_Sharing_classes : List Str := ["self"]
def A_Sharing_classes : S :=
    (.seq (.ret (.bi .list (.ref (.fld (.var 0) "Sharing" "kept_classes") .nil)))
    .skip)
theorem w_Sharing_classes : ∀ rs μ Q X, S_Sharing_classes.run rs μ Q X → wpS A_Sharing_classes (rs.map some ++ List.replicate (N_Sharing_classes.length - rs.length) none) μ (fin false μ.length Q X) := by
  rintro rs μ Q X ⟨ks, rfl, hQ⟩
  unfold A_Sharing_classes
  simp [↓wpS, ↓wpT, ↓wpE, ↓wpA, ↓wpI, ↓opt, N_Sharing_classes, shO, List.lookup]
  exact hQ
theorem all_bls {α : Type} (l : List α) (f : α → Bool) : blsD ((l.filter fun _ => true).map fun a => D.bl (f a)) = some (l.map f) := by
  rw [filt_tt]
  have : (l.map fun a => D.bl (f a)) = (l.map f).map D.bl := by rw [List.map_map]; rfl
  rw [this, bls_map]
def inC (d : D) (k : List Str) : Bool := match d with
  | .str x => k.contains x
  | _ => false
def inSh (ks : List (List Str)) (d : D) : Bool := ks.any (inC d)
def S_Sharing_contains : Spc where
  run := fun rs μ Q _ => ∃ ks d, rs = [.dat (shO ks), .dat d] ∧ (tyD d).isSome = true ∧ Q (.dat (.bl (inSh ks d))) μ
  mono := fun rs μ Q Q' X X' ⟨ks, d, h1, h2, h3⟩ f g => ⟨ks, d, h1, h2, f _ _ h3⟩
def N_Sharing_contains : List Str := ["self", "name", "names"]
def A_Sharing_contains : S :=
    (.seq (.ret (.bi .any (.ref (.lc (.and (.isi (.var 1) .str) (.one (.cmp .inn (.var 1) (.var 2)))) (.nm 2) (.seq (.fld (.var 0) "Sharing" "kept_classes")) .tt) .nil)))
    .skip)
theorem w_Sharing_contains : ∀ rs μ Q X, S_Sharing_contains.run rs μ Q X → wpS A_Sharing_contains (rs.map some ++ List.replicate (N_Sharing_contains.length - rs.length) none) μ (fin false μ.length Q X) := by
  rintro rs μ Q X ⟨ks, d, rfl, hd, hQ⟩
  unfold A_Sharing_contains
  simp [↓wpS, ↓wpT, ↓wpE, ↓wpA, ↓wpI, ↓opt, N_Sharing_contains, shO, List.lookup, seqD]
  refine compL_map (as := ks) (g := tupS) (p := fun _ => true) (f := fun k => .bl (inC d k)) (fun k hm => ⟨_, rfl, fun _ q => q, fun _ Q' q => ?_⟩) ?_
  · cases d <;> first | (cases hd; done) | skip
    all_goals simp [wipeR, Tg.slots, isi_str hd, in_tup]
    all_goals simpa [inC] using q
  · rw [all_bls]
    unfold inSh at hQ
    simpa [Function.comp_def] using hQ
def S_Sharing_eq : Spc where
  run := fun rs μ Q _ => ∃ ks d, rs = [.dat (shO ks), .dat d] ∧ ((∃ js z, d = shO js ∧ eqD (.lst (ks.map tupS)) (.lst (js.map tupS)) = some z ∧ Q (.dat (.bl z)) μ) ∨ (tyD d).isSome = true ∧ Q (.dat (.bl false)) μ)
  mono := fun rs μ Q Q' X X' ⟨ks, d, h1, h2⟩ f g => ⟨ks, d, h1, h2.imp (fun ⟨js, z, a, b, c⟩ => ⟨js, z, a, b, f _ _ c⟩) fun ⟨a, b⟩ => ⟨a, f _ _ b⟩⟩
def N_Sharing_eq : List Str := ["self", "other"]
def A_Sharing_eq : S :=
    (.seq (.ite (.not (.v (.isiO (.var 1) "Sharing"))) (.seq (.ret (.cst (.bl false)))
    .skip)
    .skip)
    (.seq (.ret (.cmp .eq (.fld (.var 0) "Sharing" "kept_classes") (.fld (.var 1) "Sharing" "kept_classes")))
    .skip))
theorem w_Sharing_eq : ∀ rs μ Q X, S_Sharing_eq.run rs μ Q X → wpS A_Sharing_eq (rs.map some ++ List.replicate (N_Sharing_eq.length - rs.length) none) μ (fin false μ.length Q X) := by
  rintro rs μ Q X ⟨ks, d, rfl, ⟨js, z, rfl, ez, hQ⟩ | ⟨hd, hQ⟩⟩
  · unfold A_Sharing_eq
    simp [↓wpS, ↓wpT, ↓wpE, ↓wpA, ↓wpI, ↓opt, N_Sharing_eq]
    refine .inl ?_
    simp [shO, List.lookup, ez]
    exact hQ
  · unfold A_Sharing_eq
    simp [↓wpS, ↓wpT, ↓wpE, ↓wpA, ↓wpI, ↓opt, N_Sharing_eq]
    refine .inr ⟨hd, ?_⟩
    exact hQ
def S_Sharing_le : Spc where
  run := fun rs μ Q _ => ∃ ks js, rs = [.dat (shO ks), .dat (shO js)] ∧ Q (.dat (.bl (leL ks js))) μ
  mono := fun rs μ Q Q' X X' ⟨ks, d, h1, h2⟩ f g => ⟨ks, d, h1, f _ _ h2⟩
def N_Sharing_le : List Str := ["self", "other", "wide", "name", "names", "own"]
def A_Sharing_le : S :=
    (.seq (.ite (.not (.v (.isiO (.var 1) "Sharing"))) (.seq (.ret .bad)
    .skip)
    .skip)
    (.seq (.set 2 (.fld (.var 1) "Sharing" "kept_classes"))
    (.seq (.ret (.bi .all (.ref (.lc (.bi .any (.ref (.lc (.bi .all (.ref (.lc (.cmp .inn (.var 3) (.var 4)) (.nm 3) (.seq (.var 5)) .tt) .nil)) (.nm 4) (.seq (.var 2)) .tt) .nil)) (.nm 5) (.seq (.fld (.var 0) "Sharing" "kept_classes")) .tt) .nil)))
    .skip)))
theorem w_Sharing_le : ∀ rs μ Q X, S_Sharing_le.run rs μ Q X → wpS A_Sharing_le (rs.map some ++ List.replicate (N_Sharing_le.length - rs.length) none) μ (fin false μ.length Q X) := by
  rintro rs μ Q X ⟨ks, js, rfl, hQ⟩
  unfold A_Sharing_le
  simp [↓wpS, ↓wpT, ↓wpE, ↓wpA, ↓wpI, ↓opt, N_Sharing_le]
  simp [shO, List.lookup, seqD]
  refine compL_map (as := ks) (g := tupS) (p := fun _ => true) (f := fun own => .bl (js.any fun names => own.all fun x => names.contains x)) (fun own hm => ⟨_, rfl, fun _ q => q, fun _ Q' q => ?_⟩) ?_
  · simp [wipeR, Tg.slots]
    refine compL_map (as := js) (g := tupS) (p := fun _ => true) (f := fun names => .bl (own.all fun x => names.contains x)) (fun names hm => ⟨_, rfl, fun _ q => q, fun _ Q' q => ?_⟩) ?_
    · simp [wipeR, Tg.slots, tupS, seqD]
      refine compL_map (as := own) (g := D.str) (p := fun _ => true) (f := fun x => .bl (names.contains x)) (fun x hm => ⟨_, rfl, fun _ q => q, fun _ Q' q => ?_⟩) ?_
      · simp [wipeR, Tg.slots, in_strs]
        simpa using q
      · rw [all_bls]
        simpa [Function.comp_def] using q
    · rw [all_bls]
      simpa [Function.comp_def] using q
  · rw [all_bls]
    unfold leL at hQ
    simpa [Function.comp_def] using hQ
end DL.K28

namespace DL.K28
open PySem PySem.Spec PyProof.Rows L2

theorem mkS_in {own : Bool} {c : Str} {Si : Spc} {rs : List RV} {μ : Mu} {Q : QV} {X : QX} : (mkS own c Si).run rs μ Q X = Si.run (.loc μ.length :: rs) (μ ++ [.ins c []]) (fun rv μ' => rv = .dat .non ∧ finQ own μ.length Q (.loc μ.length) μ') (fun e μ' => X e (μ'.take μ.length)) := rfl
/-- a sharing made of things -/
def S_new : List D → Mu → QV → QX → Prop := fun ds μ Q X => (∀ i, badAt ds [] 0 = some i → X ⟨"BadSharing", [("at", .int i)]⟩ μ) ∧ (badAt ds [] 0 = none → Q (.dat (shO (keptD ds))) μ)
theorem run_Sharing {ds : List D} {μ : Mu} {Q : QV} {X : QX} (h : ∀ d ∈ ds, okC d) (hz : ds.length ≤ 1000) (q : S_new ds μ Q X) : S_Sharing.run (ds.map .dat) μ Q X := by
  refine ⟨μ.length, ds, rfl, by simp, h, hz, fun i e => ?_, fun e => ?_⟩
  · simp [List.take_left]
    exact q.1 i e
  · refine ⟨rfl, ?_⟩
    have := q.2 e
    unfold finQ
    simp [List.take_left, shO] at this ⊢
    exact this
def S_law_new : Spc where
  run := fun rs μ Q X => ∃ ds : List D, rs = [.dat (.lst ds)] ∧ (∀ d ∈ ds, okC d) ∧ ds.length ≤ 3 ∧ S_new ds μ Q X
  mono := fun rs μ Q Q' X X' ⟨ds, h1, h2, h3, h4, h5⟩ f g => ⟨ds, h1, h2, h3, fun i e => g _ _ (h4 i e), fun e => f _ _ (h5 e)⟩
def N_law_new : List Str := ["_law_some"]
def A_law_new : S :=
    (.seq (.ite (.v (.cmp .eq (.bi .len (.ref (.var 0) .nil)) (.cst (.int 0)))) (.seq (.ret (.call "Sharing" S_Sharing .nil))
    .skip)
    .skip)
    (.seq (.ite (.v (.cmp .eq (.bi .len (.ref (.var 0) .nil)) (.cst (.int 1)))) (.seq (.ret (.call "Sharing" S_Sharing (.cons (.ix (.var 0) (.cst (.int 0))) .nil)))
    .skip)
    .skip)
    (.seq (.ite (.v (.cmp .eq (.bi .len (.ref (.var 0) .nil)) (.cst (.int 2)))) (.seq (.ret (.call "Sharing" S_Sharing (.cons (.ix (.var 0) (.cst (.int 0))) (.cons (.ix (.var 0) (.cst (.int 1))) .nil))))
    .skip)
    .skip)
    (.seq (.ret (.call "Sharing" S_Sharing (.cons (.ix (.var 0) (.cst (.int 0))) (.cons (.ix (.var 0) (.cst (.int 1))) (.cons (.ix (.var 0) (.cst (.int 2))) .nil)))))
    .skip))))
theorem w_law_new : ∀ rs μ Q X, S_law_new.run rs μ Q X → wpS A_law_new (rs.map some ++ List.replicate (N_law_new.length - rs.length) none) μ (fin false μ.length Q X) := by
  rintro rs μ Q X ⟨ds, rfl, hp, hz, hQ⟩
  have tk : ∀ {ds' : List D}, S_new ds' μ Q X → S_new ds' μ (fun rv m => finQ false μ.length Q rv m) (fun e m => X e (m.take μ.length)) := fun h => ⟨fun i e => by simpa using h.1 i e, fun e => by have := h.2 e; simpa [finQ] using this⟩
  unfold A_law_new
  match ds, hp, hz, hQ with
  | [], hp, _, hQ =>
    simp [↓wpS, ↓wpT, ↓wpE, ↓wpA, ↓wpI, ↓opt, N_law_new, eq_int]
    exact run_Sharing (ds := []) hp (by simp) (tk hQ)
  | [a], hp, _, hQ =>
    simp [↓wpS, ↓wpT, ↓wpE, ↓wpA, ↓wpI, ↓opt, N_law_new, eq_int]
    exact run_Sharing (ds := [a]) hp (by simp) (tk hQ)
  | [a, b], hp, _, hQ =>
    simp [↓wpS, ↓wpT, ↓wpE, ↓wpA, ↓wpI, ↓opt, N_law_new, eq_int]
    exact run_Sharing (ds := [a, b]) hp (by simp) (tk hQ)
  | [a, b, c], hp, _, hQ =>
    simp [↓wpS, ↓wpT, ↓wpE, ↓wpA, ↓wpI, ↓opt, N_law_new, eq_int]
    exact run_Sharing (ds := [a, b, c]) hp (by simp) (tk hQ)
  | _ :: _ :: _ :: _ :: _, _, hz, _ => exact absurd hz (by simp)
def tab_xBadSharing : List (Str × Bool) := [("BadSharing", true)]
def tab_xNoName : List (Str × Bool) := [("NoName", true)]
def tab_JoinError : List (Str × Bool) := [("BadSharing", true)]
def tab_NoName : List (Str × Bool) := [("BadSharing", false)]
def cs_BadSharing : List Str := ["BadSharing"]
def cs_NoName : List Str := ["NoName"]
def S_law_refused : Spc where
  run := fun rs μ Q X => ∃ (ds : List D) (i : Nat), rs = [.dat (.lst ds)] ∧ (∀ d ∈ ds, okC d) ∧ ds.length ≤ 3 ∧ badAt ds [] 0 = some i ∧ Q (.dat (.tup [.str "bad", .int i, .bl true])) μ
  mono := fun rs μ Q Q' X X' ⟨ds, i, h1, h2, h3, h4, h5⟩ f g => ⟨ds, i, h1, h2, h3, h4, f _ _ h5⟩
def N_law_refused : List Str := ["_law_some", "e"]
def A_law_refused : S :=
    (.seq (.tryx (.seq (.ret (.call "_law_new" S_law_new (.cons (.var 0) .nil)))
    .skip) "BadSharing" tab_xBadSharing 1 (.seq (.ret (.tup (.cons (.cst (.str "bad")) (.cons (.xfld (.var 1) "at" cs_BadSharing) (.cons (.and (.xisi (.var 1) "JoinError" tab_JoinError) (.one (.not (.xisi (.var 1) "NoName" tab_NoName)))) .nil)))))
    .skip))
    .skip)
theorem w_law_refused : ∀ rs μ Q X, S_law_refused.run rs μ Q X → wpS A_law_refused (rs.map some ++ List.replicate (N_law_refused.length - rs.length) none) μ (fin false μ.length Q X) := by
  rintro rs μ Q X ⟨ds, i, rfl, hp, hz, hb, hQ⟩
  unfold A_law_refused
  simp [↓wpS, ↓wpT, ↓wpE, ↓wpA, ↓wpI, ↓opt, N_law_refused]
  refine ⟨ds, rfl, hp, hz, fun j e => ?_, fun e => ?_⟩
  · rw [hb] at e
    cases e
    have e1 : tab_xBadSharing.lookup ("BadSharing" : Str) = some true := by decide
    have e2 : tab_JoinError.lookup ("BadSharing" : Str) = some true := by decide
    have e4 : tab_NoName.lookup ("BadSharing" : Str) = some false := by decide
    have e5 : ("BadSharing" : Str) ∈ cs_BadSharing := by decide
    simp [e1, e2, e4, e5, Kt.suite, List.lookup]
    exact hQ
  · rw [hb] at e
    cases e
def S_law_called : Spc where
  run := fun rs μ Q X => ∃ (ks : List (List Str)) (d : D) (t : Str), rs = [.dat (shO ks), .dat d] ∧ plainD d ∧ ks.length ≤ 1000 ∧ isName d = false ∧ shD d = some t ∧ Q (.dat (.tup [.str "none", .str t])) μ
  mono := fun rs μ Q Q' X X' ⟨ds, i, t, h1, h2, h3, h4, h5, h6⟩ f g => ⟨ds, i, t, h1, h2, h3, h4, h5, f _ _ h6⟩
def N_law_called : List Str := ["_law_sharing", "_law_thing", "e"]
def A_law_called : S :=
    (.seq (.tryx (.seq (.ret (.callO (.var 0) "Sharing" S_Sharing_call (.cons (.var 1) .nil)))
    .skip) "NoName" tab_xNoName 2 (.seq (.ret (.tup (.cons (.cst (.str "none")) (.cons (.bi .repr (.ref (.xfld (.var 2) "name" cs_NoName) .nil)) .nil))))
    .skip))
    .skip)
theorem w_law_called : ∀ rs μ Q X, S_law_called.run rs μ Q X → wpS A_law_called (rs.map some ++ List.replicate (N_law_called.length - rs.length) none) μ (fin false μ.length Q X) := by
  rintro rs μ Q X ⟨ks, d, t, rfl, hp, hz, hn, ht, hQ⟩
  unfold A_law_called
  simp [↓wpS, ↓wpT, ↓wpE, ↓wpA, ↓wpI, ↓opt, N_law_called]
  refine ⟨ks, d, rfl, hp, hz, fun x e n => ?_, fun _ => ?_⟩
  · rw [hn] at n; cases n
  · have e1 : tab_xNoName.lookup ("NoName" : Str) = some true := by decide
    have e5 : ("NoName" : Str) ∈ cs_NoName := by decide
    have er : biD .repr [d] = some (.str t) := by show (shD d).map D.str = _; rw [ht]; rfl
    have el : biL .repr [d] = none := biL_no (fun z => nomatch z) fun z => nomatch z
    simp [e1, e5, Kt.suite, List.lookup, er, el]
    exact hQ
/-- a class as it is handed in: a tuple or a list -/
def clD (c : Bool × List Str) : D := if c.1 then tupS c.2 else .lst (c.2.map .str)
def S_law_classes : Spc where
  run := fun rs μ Q _ => ∃ (l : Nat) (ns : List Str) (o : O), rs = [.loc l, .dat (.lst (ns.map .str))] ∧ μ[l]? = some o ∧ Src o ∧ ns.length ≤ 100 ∧ ns.Nodup ∧ (∀ n ∈ ns, Nm n) ∧
    ∀ (cs : List (Bool × List Str)) o', cs.length ≤ 3 → (cs.map Prod.snd).flatten.Nodup → (∀ x ∈ (cs.map Prod.snd).flatten, x ∈ ns) → Src o' → Q (.dat (.lst (cs.map clD))) (μ.set l o')
  mono := fun rs μ Q Q' X X' ⟨l, ns, o, h1, h2, h3, h4, h5, h6, h7⟩ f g => ⟨l, ns, o, h1, h2, h3, h4, h5, h6, fun cs o' a b c d => f _ _ (h7 cs o' a b c d)⟩
def N_law_classes : List Str := ["_law_source", "_law_names_here", "_law_left", "_law_found", "_law_turn", "_law_size", "_law_some"]
def B_law_classes_0 : S :=
    (.seq (.set 5 (.call "_law_draw" S_law_draw (.ref (.var 0) (.cons (.cst (.int 4)) .nil))))
    (.seq (.par 6 2 (.sl (.var 2) .no (.at (.var 5))) (.sl (.var 2) (.at (.var 5)) .no))
    (.seq (.exp (.app (.var 3) (.ife (.v (.cmp .eq (.call "_law_draw" S_law_draw (.ref (.var 0) (.cons (.cst (.int 2)) .nil))) (.cst (.int 0)))) (.bi .tuple (.ref (.var 6) .nil)) (.var 6))))
    .skip)))
def A_law_classes : S :=
    (.seq (.par 2 3 (.call "_law_mixed" S_law_mixed (.ref (.var 0) (.cons (.var 1) .nil))) (.lstO .nil))
    (.seq (.forr (.nm 4) (.rng (.call "_law_draw" S_law_draw (.ref (.var 0) (.cons (.cst (.int 4)) .nil)))) B_law_classes_0)
    (.seq (.ret (.var 3))
    .skip)))
theorem cut_fr {xs : List D} {n : Nat} : cutD xs (some (n : Int)) none = xs.drop n := by
  unfold cutD
  rw [HT.sIx_none, HT.sIx_nat]
  by_cases h : n ≤ xs.length
  · rw [Nat.min_eq_left h, List.take_of_length_le (by simp)]
  · rw [Nat.min_eq_right (by omega), List.drop_length, List.drop_eq_nil_of_le (by omega)]
    simp
theorem w_law_classes : ∀ rs μ Q X, S_law_classes.run rs μ Q X → wpS A_law_classes (rs.map some ++ List.replicate (N_law_classes.length - rs.length) none) μ (fin false μ.length Q X) := by
  rintro rs μ Q X ⟨l, ns, o, rfl, hl, hs, hz, nd, hN, hQ⟩
  have hlt : l < μ.length := (List.getElem?_eq_some_iff.mp hl).1
  have hg : ∀ o : O, (μ.set l o)[l]? = some o := fun o => by rw [List.getElem?_set_self hlt]
  have loop : ∀ (k : Nat) (i : Int) (left : List Str) (cs : List (Bool × List Str)) (o : O) (r4 r5 r6 : Option RV) (K : Kt), Src o → cs.length + k ≤ 3 → ((cs.map Prod.snd).flatten ++ left).Nodup → (∀ x ∈ (cs.map Prod.snd).flatten ++ left, x ∈ ns) →
      (∀ (cs : List (Bool × List Str)) (left : List Str) (o : O) (r4 r5 r6 : Option RV), Src o → cs.length ≤ 3 → (cs.map Prod.snd).flatten.Nodup → (∀ x ∈ (cs.map Prod.snd).flatten, x ∈ ns) → K.nx [some (.loc l), some (.dat (.lst (ns.map .str))), some (.dat (.lst (left.map .str))), some (.loc μ.length), r4, r5, r6] (μ.set l o ++ [.lst (cs.map clD)])) →
      forL (tgD (.nm 4)) (fun ρ μ K => wpS B_law_classes_0 ρ μ K) K (rngD i k) [some (.loc l), some (.dat (.lst (ns.map .str))), some (.dat (.lst (left.map .str))), some (.loc μ.length), r4, r5, r6] (μ.set l o ++ [.lst (cs.map clD)]) := by
    intro k
    induction k with
    | zero => intro i left cs o r4 r5 r6 K ho hk hnd hin hK; exact hK cs left o r4 r5 r6 ho (by omega) (List.nodup_append.mp hnd).1 fun x hx => hin x (List.mem_append_left _ hx)
    | succ k ih =>
      intro i left cs o r4 r5 r6 K ho hk hnd hin hK
      rw [rng_cons]
      refine forL_cons (ρ' := [some (.loc l), some (.dat (.lst (ns.map .str))), some (.dat (.lst (left.map .str))), some (.loc μ.length), some (.dat (.int i)), r5, r6]) rfl fun K' hnx hct hbk hrt hex => ?_
      unfold B_law_classes_0
      have ge : ∀ (o : O) (t : Mu), (μ.set l o ++ t)[l]? = some o := fun o t => by rw [List.getElem?_append_left (by simpa using hlt)]; exact hg o
      have se : ∀ (o o' : O) (t : Mu), (μ.set l o ++ t).set l o' = μ.set l o' ++ t := fun o o' t => by rw [List.set_append_left _ _ (by simpa using hlt), List.set_set]
      have gm : ∀ (o x : O), (μ.set l o ++ [x])[μ.length]? = some x := fun o x => by rw [List.getElem?_append_right (by simp)]; simp
      have sm : ∀ (o x y : O), (μ.set l o ++ [x]).set μ.length y = μ.set l o ++ [y] := fun o x y => by rw [List.set_append_right _ _ (by simp)]; simp
      simp [↓wpS, ↓wpT, ↓wpE, ↓wpA, ↓wpI, ↓wpO, ↓opt]
      refine ⟨l, 4, o, rfl, ge _ _, ho, by omega, by omega, fun r o1 hr0 hr4 h1 => ?_⟩
      obtain ⟨m, rfl⟩ := Int.eq_ofNat_of_zero_le hr0
      have hcl : (cs.map clD).length < 16777216 := by rw [List.length_map]; omega
      simp [se, cut_to, cut_fr, gm]
      refine ⟨l, 2, o1, rfl, ge _ _, h1, by omega, by omega, fun r2 o2 hr20 hr22 h2 => ?_⟩
      have go : ∀ b : Bool, K'.nx [some (.loc l), some (.dat (.lst (ns.map .str))), some (.dat (.lst ((left.drop m).map .str))), some (.loc μ.length), some (.dat (.int i)), some (.dat (.int m)), some (.dat (.lst ((left.take m).map .str)))] (μ.set l o2 ++ [.lst (cs.map clD ++ [clD (b, left.take m)])]) := by
        intro b
        rw [hnx]
        have e : cs.map clD ++ [clD (b, left.take m)] = (cs ++ [(b, left.take m)]).map clD := by simp
        rw [e]
        have ef : ((cs ++ [(b, left.take m)]).map Prod.snd).flatten ++ left.drop m = (cs.map Prod.snd).flatten ++ left := by simp
        exact ih (i + 1) (left.drop m) (cs ++ [(b, left.take m)]) o2 _ _ _ K h2 (by simp; omega) (by rw [ef]; exact hnd) (by rw [ef]; exact hin) hK
      have hl3 : cs.length < 16777216 := by omega
      by_cases hc : r2 = 0
      · subst hc
        simp [se, eq_int, gm, sm, hl3]
        simpa [clD, tupS] using go true
      · simp [se, eq_int, hc, gm, sm, hl3]
        simpa [clD] using go false
  unfold A_law_classes
  simp [↓wpS, ↓wpT, ↓wpE, ↓wpA, ↓wpI, ↓opt, N_law_classes]
  refine ⟨l, _, o, rfl, hl, hs, by simp; omega, fun x hx => ?_, fun ys o1 hp h1 => ?_⟩
  · obtain ⟨n, hn, rfl⟩ := List.mem_map.mp hx
    exact gd_str (hN n hn).2.2
  · obtain ⟨left, rfl, hpl⟩ : ∃ left : List Str, ys = left.map .str ∧ left.Perm ns := perm_strs hp
    simp
    refine ⟨l, 4, o1, rfl, ?_, h1, by omega, by omega, fun r o2 hr0 hr4 h2 => ?_⟩
    · rw [List.getElem?_append_left (by simpa using hlt)]; exact hg o1
    · obtain ⟨m, rfl⟩ := Int.eq_ofNat_of_zero_le hr0
      have hm : m < 4 := by omega
      simp
      refine ⟨by unfold small; exact decide_eq_true (by omega), ?_⟩
      have e1 : (μ.set l o1 ++ [O.lst []]).set l o2 = μ.set l o2 ++ [.lst (List.map clD [])] := by rw [List.set_append_left _ _ (by simpa using hlt), List.set_set]; rfl
      rw [e1]
      refine loop m 0 left [] o2 _ _ _ _ h2 (by simp; omega) (by simpa using hpl.nodup_iff.mpr nd) (by intro x hx; exact hpl.mem_iff.mp (by simpa using hx)) fun cs left o r4 r5 r6 ho hc hnd hin => ?_
      have gm : (μ.set l o ++ [O.lst (cs.map clD)])[μ.length]? = some (.lst (cs.map clD)) := by rw [List.getElem?_append_right (by simp)]; simp
      have tk : ∀ x : O, (μ.set l o ++ [x]).take μ.length = μ.set l o := fun x => by rw [← List.length_set (i := l) (a := o) (as := μ), List.take_left]
      have sm : ∀ y : O, (μ.set l o ++ [O.lst (cs.map clD)]).set μ.length y = μ.set l o ++ [y] := fun y => by rw [List.set_append_right _ _ (by simp)]; simp
      simp [↓wpS, ↓wpT, ↓wpE, ↓wpA, ↓wpI, ↓opt, finQ, gm, sm, tk]
      exact hQ cs o hc hnd hin ho
end DL.K28

namespace DL.K28
open PySem PySem.Spec PyProof.Rows L2

theorem in_cl {x : Str} {c : Bool × List Str} : cmpD .inn (.str x) (clD c) = some (c.2.contains x) := by
  unfold clD
  split
  · exact in_tup
  · rw [inn_lst, in_strs]
theorem seq_cl (c : Bool × List Str) : seqD (clD c) = some (c.2.map .str) := by
  unfold clD
  split <;> rfl
theorem items_cl (c : Bool × List Str) : itemsD (clD c) = some (c.2.map .str) := by
  unfold clD
  split <;> rfl
theorem txs_cl (c : Bool × List Str) : txs (clD c) = c.2 := by
  unfold clD txs tupS
  split
  · rw [txts_tup]; rfl
  · rw [txts_lst]; rfl
def S_law_place : Spc where
  run := fun rs μ Q _ => ∃ (cs : List (Bool × List Str)) (x : Str), rs = [.dat (.lst (cs.map clD)), .dat (.str x)] ∧ Q (.dat (.str (placeL (cs.map Prod.snd) x))) μ
  mono := fun rs μ Q Q' X X' ⟨cs, x, h1, h2⟩ f g => ⟨cs, x, h1, f _ _ h2⟩
def N_law_place : List Str := ["_law_some", "_law_name", "_law_names_here", "_law_other"]
def B_law_place_0 : S :=
    (.seq (.ite (.v (.cmp .inn (.var 1) (.var 2))) (.seq (.ret (.ix (.bi .sorted (.ref (.lc (.bi .str (.ref (.var 3) .nil)) (.nm 3) (.seq (.var 2)) .tt) .nil)) (.cst (.int 0))))
    .skip)
    .skip)
    .skip)
def A_law_place : S :=
    (.seq (.forr (.nm 2) (.seq (.var 0)) B_law_place_0)
    (.seq (.ret (.var 1))
    .skip))
theorem place_loop {x : Str} {r0 : Option RV} {μ : Mu} : ∀ (cs : List (Bool × List Str)) (r2 r3 : Option RV) (K : Kt), (∀ c, (cs.map Prod.snd).find? (fun d => d.contains x) = some c → K.rt (.dat (.str (hd0 (sortS c) x))) μ) → ((cs.map Prod.snd).find? (fun d => d.contains x) = none → ∀ r2 r3, K.nx [r0, some (.dat (.str x)), r2, r3] μ) →
    forL (tgD (.nm 2)) (fun ρ μ K => wpS B_law_place_0 ρ μ K) K (cs.map clD) [r0, some (.dat (.str x)), r2, r3] μ
  | [], r2, r3, K, _, hn => hn rfl r2 r3
  | c :: cs, r2, r3, K, hr, hn => by
    refine forL_cons (ρ' := [r0, some (.dat (.str x)), some (.dat (clD c)), r3]) rfl fun K' hnx hct hbk hrt hex => ?_
    unfold B_law_place_0
    rw [List.map_cons, List.find?_cons] at hr hn
    simp [↓wpS, ↓wpT, ↓wpE, ↓wpA, ↓wpI, ↓opt, in_cl]
    cases hc : c.2.contains x with
    | true =>
      rw [hc] at hr
      have hm : x ∈ c.2 := List.contains_iff_mem.mp hc
      simp [hm, seq_cl]
      refine compL_map (as := c.2) (g := D.str) (p := fun _ => true) (f := D.str) (fun y hy => ⟨_, rfl, fun _ q => q, fun _ Q' q => ?_⟩) ?_
      · simp [wipeR, Tg.slots]
        exact q
      · rw [filt_tt]
        simp [strs_map]
        have hs : x ∈ sortS c.2 := sortS_mem.mpr hm
        have e := hr _ rfl
        revert hs e
        generalize sortS c.2 = s
        intro hs e
        match s, hs with
        | a :: s, _ =>
          simp [hrt]
          exact e
    | false =>
      rw [hc] at hr hn
      have hm : x ∉ c.2 := fun z => by rw [List.contains_iff_mem.mpr z] at hc; cases hc
      simp [hm, hnx]
      exact place_loop cs _ _ K hr hn
theorem w_law_place : ∀ rs μ Q X, S_law_place.run rs μ Q X → wpS A_law_place (rs.map some ++ List.replicate (N_law_place.length - rs.length) none) μ (fin false μ.length Q X) := by
  rintro rs μ Q X ⟨cs, x, rfl, hQ⟩
  unfold A_law_place
  simp [↓wpS, ↓wpT, ↓wpE, ↓wpA, ↓wpI, ↓opt, N_law_place, seqD]
  unfold placeL at hQ
  refine place_loop cs _ _ _ (fun c e => ?_) fun e r2 r3 => ?_
  · rw [e] at hQ
    simp
    exact hQ
  · rw [e] at hQ
    simp [↓wpS, ↓wpT, ↓wpE, ↓wpA, ↓wpI, ↓opt]
    exact hQ
@[simp] theorem run_place {cs : List (Bool × List Str)} {x : Str} {μ : Mu} {Q : QV} {X : QX} (h : Q (.dat (.str (placeL (cs.map Prod.snd) x))) μ) : S_law_place.run [.dat (.lst (cs.map clD)), .dat (.str x)] μ Q X := ⟨cs, x, rfl, h⟩
def S_law_finer : Spc where
  run := fun rs μ Q _ => ∃ (ns : List Str) (cs ds : List (Bool × List Str)), rs = [.dat (.lst (ns.map .str)), .dat (.lst (cs.map clD)), .dat (.lst (ds.map clD))] ∧ Q (.dat (.bl (finerL ns (cs.map Prod.snd) (ds.map Prod.snd)))) μ
  mono := fun rs μ Q Q' X X' ⟨ns, cs, x, h1, h2⟩ f g => ⟨ns, cs, x, h1, f _ _ h2⟩
def N_law_finer : List Str := ["_law_names_here", "_law_one", "_law_other", "_law_x", "_law_y"]
def B_law_finer_0 : S :=
    (.seq (.ite (.and (.v (.cmp .eq (.call "_law_place" S_law_place (.cons (.var 1) (.cons (.var 3) .nil))) (.call "_law_place" S_law_place (.cons (.var 1) (.cons (.var 4) .nil))))) (.one (.v (.cmp .ne (.call "_law_place" S_law_place (.cons (.var 2) (.cons (.var 3) .nil))) (.call "_law_place" S_law_place (.cons (.var 2) (.cons (.var 4) .nil))))))) (.seq (.ret (.cst (.bl false)))
    .skip)
    .skip)
    .skip)
def B_law_finer_1 : S :=
    (.seq (.forr (.nm 4) (.seq (.var 0)) B_law_finer_0)
    .skip)
def A_law_finer : S :=
    (.seq (.forr (.nm 3) (.seq (.var 0)) B_law_finer_1)
    (.seq (.ret (.cst (.bl true)))
    .skip))
section
variable {cs ds : List (Bool × List Str)} {μ : Mu} {r0 : Option RV}
def okXY (cs ds : List (List Str)) (x y : Str) : Bool := !(placeL cs x == placeL cs y && placeL ds x != placeL ds y)
theorem finer_in {x : Str} : ∀ (ys : List Str) (r4 : Option RV) (K : Kt), ((ys.all (okXY (cs.map Prod.snd) (ds.map Prod.snd) x)) = false → K.rt (.dat (.bl false)) μ) → ((ys.all (okXY (cs.map Prod.snd) (ds.map Prod.snd) x)) = true → ∀ r4, K.nx [r0, some (.dat (.lst (cs.map clD))), some (.dat (.lst (ds.map clD))), some (.dat (.str x)), r4] μ) →
    forL (tgD (.nm 4)) (fun ρ μ K => wpS B_law_finer_0 ρ μ K) K (ys.map .str) [r0, some (.dat (.lst (cs.map clD))), some (.dat (.lst (ds.map clD))), some (.dat (.str x)), r4] μ
  | [], r4, K, _, hn => hn rfl r4
  | y :: ys, r4, K, hr, hn => by
    refine forL_cons (ρ' := [r0, some (.dat (.lst (cs.map clD))), some (.dat (.lst (ds.map clD))), some (.dat (.str x)), some (.dat (.str y))]) rfl fun K' hnx hct hbk hrt hex => ?_
    unfold B_law_finer_0
    rw [List.all_cons] at hr hn
    simp only [↓wpS, ↓wpT, ↓wpE, ↓wpA, ↓wpI, ↓opt]
    simp
    refine run_place (run_place ?_)
    simp [eqD]
    have step : okXY (cs.map Prod.snd) (ds.map Prod.snd) x y = true → forL (tgD (.nm 4)) (fun ρ μ K => wpS B_law_finer_0 ρ μ K) K (ys.map .str) [r0, some (.dat (.lst (cs.map clD))), some (.dat (.lst (ds.map clD))), some (.dat (.str x)), some (.dat (.str y))] μ := fun e => by
      rw [e, Bool.true_and] at hr hn
      exact finer_in ys _ K hr hn
    split
    · rename_i e1
      refine run_place (run_place ?_)
      simp
      split
      · rename_i e2
        rw [hnx]
        exact step (by simp [okXY, e2])
      · rename_i e2
        rw [hrt]
        exact hr (by simp [okXY, e1, e2])
    · rename_i e1
      simp [hnx]
      exact step (by simp [okXY, e1])
theorem finer_out {ns : List Str} : ∀ (xs : List Str) (r3 r4 : Option RV) (K : Kt), ((xs.all fun x => ns.all (okXY (cs.map Prod.snd) (ds.map Prod.snd) x)) = false → K.rt (.dat (.bl false)) μ) → ((xs.all fun x => ns.all (okXY (cs.map Prod.snd) (ds.map Prod.snd) x)) = true → ∀ ρ, K.nx ρ μ) →
    forL (tgD (.nm 3)) (fun ρ μ K => wpS B_law_finer_1 ρ μ K) K (xs.map .str) [some (.dat (.lst (ns.map .str))), some (.dat (.lst (cs.map clD))), some (.dat (.lst (ds.map clD))), r3, r4] μ
  | [], r3, r4, K, _, hn => hn rfl _
  | x :: xs, r3, r4, K, hr, hn => by
    refine forL_cons (ρ' := [some (.dat (.lst (ns.map .str))), some (.dat (.lst (cs.map clD))), some (.dat (.lst (ds.map clD))), some (.dat (.str x)), r4]) rfl fun K' hnx hct hbk hrt hex => ?_
    unfold B_law_finer_1
    rw [List.all_cons] at hr hn
    simp [↓wpS, ↓wpT, ↓wpE, ↓wpA, ↓wpI, ↓opt, seqD]
    refine finer_in ns _ _ (fun e => ?_) fun e r4 => ?_
    · simp [hrt]
      exact hr (by rw [e]; rfl)
    · rw [e, Bool.true_and] at hr hn
      simp [hnx]
      exact finer_out xs _ _ K hr hn
end
theorem w_law_finer : ∀ rs μ Q X, S_law_finer.run rs μ Q X → wpS A_law_finer (rs.map some ++ List.replicate (N_law_finer.length - rs.length) none) μ (fin false μ.length Q X) := by
  rintro rs μ Q X ⟨ns, cs, ds, rfl, hQ⟩
  have e : finerL ns (cs.map Prod.snd) (ds.map Prod.snd) = ns.all fun x => ns.all (okXY (cs.map Prod.snd) (ds.map Prod.snd) x) := rfl
  unfold A_law_finer
  simp [↓wpS, ↓wpT, ↓wpE, ↓wpA, ↓wpI, ↓opt, N_law_finer, seqD]
  refine finer_out ns _ _ _ (fun q => ?_) fun q ρ => ?_
  · rw [e, q] at hQ
    simp
    exact hQ
  · rw [e, q] at hQ
    simp [↓wpS, ↓wpT, ↓wpE, ↓wpA, ↓wpI, ↓opt]
    exact hQ
end DL.K28

namespace DL.K28
open PySem PySem.Spec PyProof.Rows L2 PySem.Builtin PySem.Builtin.Str

theorem py_strs : ∀ ns : List Str, toPys (ns.map .str) = some (ns.map .str)
  | [] => rfl
  | n :: ns => by
    show ((toPy (.str n)).bind fun p => (toPys (ns.map D.str)).map fun ps => p :: ps) = _
    rw [py_strs ns]; rfl
theorem eqv_strs : ∀ a b : List Str, PyData.eqvAll (a.map .str) (b.map .str) = decide (a = b)
  | [], [] => rfl
  | [], _ :: _ => rfl
  | _ :: _, [] => rfl
  | x :: a, y :: b => by
    show (PyData.eqv (.str x) (.str y) && PyData.eqvAll (a.map .str) (b.map .str)) = _
    rw [eqv_strs a b]
    show ((x == y) && _) = _
    rw [Bool.eq_iff_iff, Bool.and_eq_true, beq_iff_eq, decide_eq_true_iff, decide_eq_true_iff, List.cons.injEq]
def tupP (k : List Str) : PyData := .tuple (k.map .str)
theorem py_tups : ∀ ks : List (List Str), toPys (ks.map tupS) = some (ks.map tupP)
  | [] => rfl
  | k :: ks => by
    show ((toPy (tupS k)).bind fun p => (toPys (ks.map tupS)).map fun ps => p :: ps) = _
    have e : toPy (tupS k) = some (tupP k) := by
      show (toPys (k.map D.str)).map PyData.tuple = _
      rw [py_strs]; rfl
    rw [py_tups ks, e]; rfl
theorem eqv_tups : ∀ a b : List (List Str), PyData.eqvAll (a.map tupP) (b.map tupP) = decide (a = b)
  | [], [] => rfl
  | [], _ :: _ => rfl
  | _ :: _, [] => rfl
  | x :: a, y :: b => by
    show (PyData.eqv (tupP x) (tupP y) && PyData.eqvAll (a.map tupP) (b.map tupP)) = _
    rw [eqv_tups a b]
    show (PyData.eqvAll (x.map .str) (y.map .str) && _) = _
    rw [eqv_strs, Bool.eq_iff_iff, Bool.and_eq_true, decide_eq_true_iff, decide_eq_true_iff, decide_eq_true_iff, List.cons.injEq]
theorem gd_tups {ks : List (List Str)} (h : ClN ks) : ∀ d ∈ ks.map tupS, gd d := by
  intro d hd
  obtain ⟨k, hk, rfl⟩ := List.mem_map.mp hd
  exact gd_strs fun x hx => ((h k hk).1 x hx).2.2
theorem eq_tups {ks js : List (List Str)} (h : ClN ks) (h' : ClN js) : eqD (.lst (ks.map tupS)) (.lst (js.map tupS)) = some (decide (ks = js)) := by
  obtain ⟨ps, f1, f2, f3, _⟩ := gds (gd_tups h)
  obtain ⟨qs, g1, g2, g3, _⟩ := gds (gd_tups h')
  rw [py_tups] at f1 g1
  cases f1
  cases g1
  rw [eqD_lst (py_tups ks) (py_tups js) (shL f2 f3) (shL g2 g3)]
  congr 1
  exact eqv_tups ks js
/-- texts that may be laid -/
def lay (z : Str) : Prop := ∀ c ∈ z.cps.toList, c < 1114112
theorem lay_ok {z : Str} (h : lay z) : PyData.strOk z = true := by
  unfold PyData.strOk
  rw [Array.all_eq_true']
  intro c hc
  exact decide_eq_true (h c (by simpa using hc))
theorem gd_lay {z : Str} (h : lay z) : gd (.str z) := ⟨.str z, rfl, by simp only [PyData.canLay0]; exact lay_ok h, by simp [PyData.depth]⟩
theorem lay_app {a b : Str} (h : lay a) (h' : lay b) : lay (a ++ b) := by
  intro c hc
  rw [str_app] at hc
  rcases List.mem_append.mp hc with z | z
  · exact h c z
  · exact h' c z
theorem lay_join : ∀ {ts : List Str}, (∀ t ∈ ts, lay t) → lay (Str.join ", " ts)
  | [], _ => by
    intro c hc
    have hc : c ∈ ([] : List Nat) := hc
    cases hc
  | [t], h => by
    show lay t
    exact h t (by simp)
  | t :: u :: ts, h => by
    show lay (t ++ ", " ++ Str.join ", " (u :: ts))
    refine lay_app (lay_app (h t (by simp)) ?_) (lay_join fun x hx => h x (List.mem_cons_of_mem _ hx))
    have : ∀ c ∈ [44, 32], c < 1114112 := by decide
    exact this
theorem lay_key {k : List Str} (h : ∀ n ∈ k, Nm n) (hz : k.length ≤ 1000) : lay (keyL k) := by
  rw [keyL_eq h hz]
  unfold tupleText
  refine lay_app (lay_app ?_ (lay_join fun t ht => ?_)) ?_
  · have : ∀ c ∈ [40], c < 1114112 := by decide
    exact this
  · obtain ⟨n, hn, rfl⟩ := List.mem_map.mp ht
    intro c hc
    rw [repr_low (h n hn).2.2] at hc
    simp at hc
    rcases hc with rfl | hc | rfl
    · decide
    · have := (h n hn).2.2 c (by simpa using hc)
      omega
    · decide
  · split
    · have : ∀ c ∈ [44, 41], c < 1114112 := by decide
      exact this
    · have : ∀ c ∈ [41], c < 1114112 := by decide
      exact this
theorem eq_lays {zs : List Str} (h : ∀ z ∈ zs, lay z) : eqD (.lst (zs.map .str)) (.lst (zs.map .str)) = some true := eqD_self fun x hx => by
  obtain ⟨z, hz, rfl⟩ := List.mem_map.mp hx
  exact gd_lay (h z hz)
theorem low_lay {z : Str} (h : low z) : lay z := fun c hc => by have := h c hc; omega
theorem bi_strT {k : List Str} (h : ∀ n ∈ k, Nm n) (hz : k.length ≤ 1000) : biD .str [tupS k] = some (.str (keyL k)) := by
  show (shD (tupS k)).map D.str = _
  rw [sh_strs h hz, keyL_eq h hz]; rfl
/-- classes as the law draws them -/
structure Cs (ns : List Str) (cs : List (Bool × List Str)) : Prop where
  few : cs.length ≤ 3
  nd : (cs.map Prod.snd).flatten.Nodup
  on : ∀ x ∈ (cs.map Prod.snd).flatten, x ∈ ns
section
variable {ns : List Str} {cs ds : List (Bool × List Str)}
theorem Cs.cl (h : Cs ns cs) (hN : ∀ n ∈ ns, Nm n) (hz : ns.length ≤ 8) : ClN (cs.map Prod.snd) := by
  intro c hc
  have sub : ∀ x ∈ c, x ∈ ns := fun x hx => h.on x (List.mem_flatten.mpr ⟨c, hc, hx⟩)
  refine ⟨fun n hn => hN n (sub n hn), ?_⟩
  have := nd_sub (nd_in h.nd hc) sub
  omega
theorem set_nd {c : List Str} (h : c.Nodup) : (setTs c).Perm c := (List.perm_ext_iff_of_nodup (setTs_nd c) h).mpr fun _ => setTs_mem
theorem kept_cl (h : Cs ns cs) : keptD (cs.map clD) = keptL (cs.map Prod.snd) := by
  unfold keptD keptL dueL
  have e : (cs.map clD).map txs = cs.map Prod.snd := by
    rw [List.map_map]
    exact List.map_congr_left fun c _ => txs_cl c
  rw [e]
  congr 1
  refine List.map_congr_left fun c hc => sortS_perm (set_nd (nd_in h.nd (List.mem_filter.mp hc).1))
theorem ok_cl {c : Bool × List Str} (h : (∀ n ∈ c.2, Nm n) ∧ c.2.length ≤ 1000) : okC (clD c) := by
  refine ⟨by unfold clD tupS; split <;> rfl, fun xs hx => ?_⟩
  rw [items_cl] at hx
  cases hx
  refine ⟨fun x hx => ?_, by rw [List.length_map]; exact h.2⟩
  obtain ⟨n, hn, rfl⟩ := List.mem_map.mp hx
  exact (h.1 n hn).plain
theorem cls_cl {es : List Str} {c : Bool × List Str} (hN : ∀ n ∈ c.2, Nm n) (nd : c.2.Nodup) (dj : ∀ n ∈ c.2, n ∉ es) : isCls es (clD c) = true := by
  unfold isCls
  rw [items_cl]
  simp only [Bool.and_eq_true, List.all_eq_true]
  refine ⟨fun x hx => ?_, ?_, ?_⟩
  · obtain ⟨n, hn, rfl⟩ := List.mem_map.mp hx
    exact name_ok (hN n hn)
  · rw [txs_cl]
    exact decide_eq_true (set_nd nd).length_eq
  · rw [txs_cl, Bool.not_eq_true', List.any_eq_false]
    intro n hn z
    exact dj n hn (List.contains_iff_mem.mp z)
theorem bad_good : ∀ {cs : List (Bool × List Str)} {es : List Str} {i : Nat} {rest : List D}, (∀ c ∈ cs, ∀ n ∈ c.2, Nm n) → (es ++ (cs.map Prod.snd).flatten).Nodup → badAt (cs.map clD ++ rest) es i = badAt rest (es ++ (cs.map Prod.snd).flatten) (i + cs.length)
  | [], es, i, rest, _, _ => by simp
  | c :: cs, es, i, rest, hN, nd => by
    rw [List.map_cons, List.flatten_cons, ← List.append_assoc] at nd
    have nd1 := (List.nodup_append.mp nd).1
    have nd2 := List.nodup_append.mp nd1
    rw [List.map_cons, List.cons_append]
    show (if isCls es (clD c) = true then badAt (cs.map clD ++ rest) (es ++ txs (clD c)) (i + 1) else some i) = _
    rw [if_pos (cls_cl (hN c List.mem_cons_self) nd2.2.1 fun n hn z => nd2.2.2 n z n hn rfl), txs_cl, bad_good (fun c hc => hN c (List.mem_cons_of_mem _ hc)) nd]
    rw [List.map_cons, List.flatten_cons, List.append_assoc, List.length_cons, show i + 1 + cs.length = i + (cs.length + 1) by omega]
end
end DL.K28

namespace DL.K28
open PySem PySem.Spec PyProof.Rows L2

def N_law : List Str := ["_law_script", "_law_source", "_law_turn", "_law_names_here", "_law_some", "_law_others", "_law_one", "_law_other", "_law_wide", "_law_some_names", "_law_due", "_law_name", "_law_row", "_law_shared", "_law_odd", "_law_bad"]
def B_law_0 : S :=
    (.seq (.set 13 (.bin .add (.var 13) (.bi .list (.ref (.var 12) .nil))))
    .skip)
def B_law_1 : S :=
    (.seq (.ite (.or (.v (.cmp .ne (.callO (.var 6) "Sharing" S_Sharing_call (.cons (.var 11) .nil)) (.call "_law_place" S_law_place (.cons (.var 4) (.cons (.var 11) .nil))))) (.one (.v (.cmp .ne (.ow .inn (.var 11) (.var 6) "Sharing" S_Sharing_contains) (.cmp .inn (.var 11) (.var 13)))))) (.seq (.ret (.cst (.bl false)))
    .skip)
    .skip)
    .skip)
def R_law_2 : S :=
    (.seq (.ite (.and (.v (.cmp .ne (.var 13) (.lst .nil))) (.and (.v (.cmp .lt (.bi .len (.ref (.var 4) .nil)) (.cst (.int 3)))) (.one (.v (.cmp .ne (.call "_law_refused" S_law_refused (.cons (.bin .add (.var 4) (.lst (.cons (.lst (.cons (.ix (.var 13) (.cst (.int 0))) .nil)) .nil))) .nil)) (.tup (.cons (.cst (.str "bad")) (.cons (.bi .len (.ref (.var 4) .nil)) (.cons (.cst (.bl true)) .nil))))))))) (.seq (.ret (.cst (.bl false)))
    .skip)
    .skip)
    .skip)
def R_law_3 : S :=
    (.seq (.ite (.v (.cmp .ne (.call "_law_refused" S_law_refused (.cons (.bin .add (.sl (.var 4) .no (.at (.cst (.int 1)))) (.lst (.cons (.var 15) (.cons (.cst .non) .nil)))) .nil)) (.tup (.cons (.cst (.str "bad")) (.cons (.bi .len (.ref (.sl (.var 4) .no (.at (.cst (.int 1)))) .nil)) (.cons (.cst (.bl true)) .nil)))))) (.seq (.ret (.cst (.bl false)))
    .skip)
    .skip)
    R_law_2)
def R_law_4 : S :=
    (.seq (.set 15 (.call "_law_pick" S_law_pick (.ref (.var 1) (.cons (.lst (.cons (.cst (.str "ab")) (.cons (.cst .non) (.cons (.lst (.cons (.ix (.var 3) (.cst (.int 0))) (.cons (.ix (.var 3) (.cst (.int 0))) .nil))) (.cons (.lst (.cons (.ix (.var 3) (.cst (.int 0))) (.cons (.cst (.str "")) .nil))) (.cons (.lst (.cons (.cst (.int 3)) .nil)) (.cons (.dic1 (.ix (.var 3) (.cst (.int 0))) (.cst (.int 1))) .nil))))))) .nil))))
    R_law_3)
def R_law_5 : S :=
    (.seq (.ite (.or (.v (.cmp .ne (.call "_law_called" S_law_called (.cons (.var 6) (.cons (.var 14) .nil))) (.tup (.cons (.cst (.str "none")) (.cons (.bi .repr (.ref (.var 14) .nil)) .nil))))) (.one (.v (.ow .inn (.var 14) (.var 6) "Sharing" S_Sharing_contains)))) (.seq (.ret (.cst (.bl false)))
    .skip)
    .skip)
    R_law_4)
def R_law_6 : S :=
    (.seq (.set 14 (.call "_law_pick" S_law_pick (.ref (.var 1) (.cons (.lst (.cons (.cst .non) (.cons (.cst (.str "")) (.cons (.cst (.int 3)) (.cons (.tup (.cons (.ix (.var 3) (.cst (.int 0))) .nil)) (.cons (.cst (.str "A")) .nil)))))) .nil))))
    R_law_5)
def R_law_7 : S :=
    (.seq (.ite (.or (.v (.cmp .ne (.ow .eq (.var 6) (.var 7) "Sharing" S_Sharing_eq) (.and (.ow .le (.var 6) (.var 7) "Sharing" S_Sharing_le) (.one (.ow .le (.var 7) (.var 6) "Sharing" S_Sharing_le))))) (.or (.v (.ow .eqd (.var 6) (.var 10) "Sharing" S_Sharing_eq)) (.one (.v (.ow .ne (.var 6) (.call "_law_new" S_law_new (.cons (.rev (.var 4)) .nil)) "Sharing" S_Sharing_eq))))) (.seq (.ret (.cst (.bl false)))
    .skip)
    .skip)
    R_law_6)
def R_law_8 : S :=
    (.seq (.ite (.or (.v (.cmp .ne (.bi .repr (.ref (.ow .le (.var 6) (.var 7) "Sharing" S_Sharing_le) .nil)) (.bi .repr (.ref (.call "_law_finer" S_law_finer (.cons (.var 3) (.cons (.var 4) (.cons (.var 5) .nil)))) .nil)))) (.or (.not (.v (.ow .le (.call "Sharing" S_Sharing .nil) (.var 6) "Sharing" S_Sharing_le))) (.one (.not (.v (.ow .le (.var 6) (.var 6) "Sharing" S_Sharing_le)))))) (.seq (.ret (.cst (.bl false)))
    .skip)
    .skip)
    R_law_7)
def R_law_9 : S :=
    (.seq (.forr (.nm 11) (.seq (.var 3)) B_law_1)
    R_law_8)
def R_law_10 : S :=
    (.seq (.forr (.nm 12) (.seq (.var 10)) B_law_0)
    R_law_9)
def R_law_11 : S :=
    (.seq (.set 13 (.lst .nil))
    R_law_10)
def R_law_12 : S :=
    (.seq (.ite (.v (.cmp .ne (.lc (.ix (.var 12) (.cst (.int 0))) (.nm 12) (.seq (.meth (.var 6) "Sharing" "classes" S_Sharing_classes .nil)) .tt) (.bi .sorted (.ref (.lc (.bi .str (.ref (.ix (.var 12) (.cst (.int 0))) .nil)) (.nm 12) (.seq (.meth (.var 6) "Sharing" "classes" S_Sharing_classes .nil)) .tt) .nil)))) (.seq (.ret (.cst (.bl false)))
    .skip)
    .skip)
    R_law_11)
def R_law_13 : S :=
    (.seq (.ite (.v (.cmp .ne (.bi .sorted (.ref (.lc (.bi .str (.ref (.var 12) .nil)) (.nm 12) (.seq (.meth (.var 6) "Sharing" "classes" S_Sharing_classes .nil)) .tt) .nil)) (.bi .sorted (.ref (.lc (.bi .str (.ref (.var 12) .nil)) (.nm 12) (.seq (.var 10)) .tt) .nil)))) (.seq (.ret (.cst (.bl false)))
    .skip)
    .skip)
    R_law_12)
def R_law_14 : S :=
    (.seq (.set 10 (.lc (.bi .tuple (.ref (.bi .sorted (.ref (.lc (.bi .str (.ref (.var 11) .nil)) (.nm 11) (.seq (.var 9)) .tt) .nil)) .nil)) (.nm 9) (.seq (.var 8)) .tt))
    R_law_13)
def R_law_15 : S :=
    (.seq (.set 8 (.lc (.var 9) (.nm 9) (.seq (.var 4)) (.v (.cmp .gt (.bi .len (.ref (.var 9) .nil)) (.cst (.int 1))))))
    R_law_14)
def R_law_16 : S :=
    (.seq (.par 6 7 (.call "_law_new" S_law_new (.cons (.var 4) .nil)) (.call "_law_new" S_law_new (.cons (.var 5) .nil)))
    R_law_15)
def R_law_17 : S :=
    (.seq (.par 4 5 (.call "_law_classes" S_law_classes (.ref (.var 1) (.cons (.var 3) .nil))) (.call "_law_classes" S_law_classes (.ref (.var 1) (.cons (.var 3) .nil))))
    R_law_16)
def B_law_18 : S :=
    (.seq (.set 3 (.call "_law_names" S_law_names (.ref (.var 1) (.cons (.cst (.int 8)) .nil))))
    R_law_17)
def R_law_19 : S :=
    (.seq (.ret (.cst (.bl true)))
    .skip)
def R_law_20 : S :=
    (.seq (.forr (.nm 2) (.rng (.cst (.int 6))) B_law_18)
    R_law_19)
def A_law : S :=
    (.seq (.set 1 (.call "_law_begin" S_law_begin (.cons (.var 0) .nil)))
    R_law_20)
theorem len16 {ρ : Rho} (h : ρ.length = 16) : ∃ r0 r1 r2 r3 r4 r5 r6 r7 r8 r9 r10 r11 r12 r13 r14 r15, ρ = [r0, r1, r2, r3, r4, r5, r6, r7, r8, r9, r10, r11, r12, r13, r14, r15] := by
  match ρ, h with
  | [r0, r1, r2, r3, r4, r5, r6, r7, r8, r9, r10, r11, r12, r13, r14, r15], _ => exact ⟨_, _, _, _, _, _, _, _, _, _, _, _, _, _, _, _, rfl⟩
@[simp] theorem ft_eqd {c : Str} {μ : Mu} {r : RV} : Oo.fits .eqd c μ r = ∃ d, vw μ r = some d ∧ (tyD d).isSome = true := rfl
@[simp] theorem fl_eqd : Oo.flip .eqd = false := rfl
@[simp] theorem nm_eqd : Oo.nm .eqd = "__eq__" := rfl
@[simp] theorem bk_eqd {z : Bool} {Q : QV} {μ : Mu} : Oo.back .eqd Q (.dat (.bl z)) μ ↔ Q (.dat (.bl z)) μ := ⟨fun ⟨_, e, q⟩ => by cases e; exact q, fun q => ⟨_, rfl, q⟩⟩
section
variable {μ : Mu} {K : Kt} {ns : List Str} {cs ds : List (Bool × List Str)} {r0 r2 r9 r11 r12 r14 r15 : Option RV} {wide : D}
/-- what a turn has drawn and made -/
structure Tn (ns : List Str) (cs ds : List (Bool × List Str)) (one other due : List (List Str)) (sh : List Str) : Prop where
  c : Cs ns cs
  d : Cs ns ds
  N : ∀ n ∈ ns, Nm n
  l : ns.length = 8
  e1 : one = keptL (cs.map Prod.snd)
  e2 : other = keptL (ds.map Prod.snd)
  e3 : due = dueL (cs.map Prod.snd)
  e4 : sh = due.flatten
variable {one other due : List (List Str)} {sh : List Str}
/-- the slots from the row of due on -/
abbrev rho (μ : Mu) (ns : List Str) (cs ds : List (Bool × List Str)) (one other due : List (List Str)) (sh : List Str) (wide : D) (r0 r2 r9 r11 r12 r14 r15 : Option RV) : Rho :=
  [r0, some (.loc μ.length), r2, some (.dat (.lst (ns.map .str))), some (.dat (.lst (cs.map clD))), some (.dat (.lst (ds.map clD))), some (.dat (shO one)), some (.dat (shO other)), some (.dat wide), r9, some (.dat (.lst (due.map tupS))), r11, r12, some (.dat (.lst (sh.map .str))), r14, r15]
theorem Tn.len1 (t : Tn ns cs ds one other due sh) : one.length ≤ 3 := by
  have h1 := (sortL_perm (dueL (cs.map Prod.snd))).length_eq
  have h2 : (dueL (cs.map Prod.snd)).length ≤ cs.length := by
    unfold dueL
    rw [List.length_map]
    have := List.length_filter_le (fun c : List Str => decide (1 < c.length)) (cs.map Prod.snd)
    rw [List.length_map] at this
    exact this
  have h3 := t.c.few
  have : one = sortL (dueL (cs.map Prod.snd)) := t.e1
  rw [this]
  omega
theorem Tn.clc (t : Tn ns cs ds one other due sh) : ClN (cs.map Prod.snd) := t.c.cl t.N (by have := t.l; omega)
theorem Tn.cld (t : Tn ns cs ds one other due sh) : ClN (ds.map Prod.snd) := t.d.cl t.N (by have := t.l; omega)
theorem Tn.cl1 (t : Tn ns cs ds one other due sh) : ClN one := by rw [t.e1]; exact t.clc.kept
theorem Tn.cl2 (t : Tn ns cs ds one other due sh) : ClN other := by rw [t.e2]; exact t.cld.kept
theorem flat_sub {α : Type} {as bs : List (List α)} (h : as.Sublist bs) : as.flatten.Sublist bs.flatten := by
  induction h with
  | slnil => exact List.Sublist.refl _
  | cons a h ih => rw [List.flatten_cons]; exact ih.trans (List.sublist_append_right _ _)
  | cons_cons a h ih => rw [List.flatten_cons, List.flatten_cons]; exact (List.Sublist.refl _).append ih
theorem run_call {ks : List (List Str)} {x : Str} {Q : QV} {X : QX} (hx : Nm x) (hk : ks.length ≤ 1000) (h : Q (.dat (.str (callL ks x))) μ) : S_Sharing_call.run [.dat (shO ks), .dat (.str x)] μ Q X :=
  ⟨ks, _, rfl, hx.plain, hk, fun y e _ => by cases e; exact h, fun n => by rw [name_ok hx] at n; cases n⟩
theorem run_in {ks : List (List Str)} {d : D} {Q : QV} {X : QX} (hd : (tyD d).isSome = true) (h : Q (.dat (.bl (inSh ks d))) μ) : S_Sharing_contains.run [.dat (shO ks), .dat d] μ Q X := ⟨ks, d, rfl, hd, h⟩
theorem run_le {ks js : List (List Str)} {Q : QV} {X : QX} (h : Q (.dat (.bl (leL ks js))) μ) : S_Sharing_le.run [.dat (shO ks), .dat (shO js)] μ Q X := ⟨ks, js, rfl, h⟩
theorem run_eqS {ks js : List (List Str)} {Q : QV} {X : QX} (h1 : ClN ks) (h2 : ClN js) (h : Q (.dat (.bl (decide (ks = js)))) μ) : S_Sharing_eq.run [.dat (shO ks), .dat (shO js)] μ Q X := ⟨ks, _, rfl, .inl ⟨js, _, rfl, eq_tups h1 h2, h⟩⟩
theorem run_eqd {ks : List (List Str)} {d : D} {Q : QV} {X : QX} (hd : (tyD d).isSome = true) (h : Q (.dat (.bl false)) μ) : S_Sharing_eq.run [.dat (shO ks), .dat d] μ Q X := ⟨ks, d, rfl, .inr ⟨hd, h⟩⟩
theorem run_newC {Q : QV} {X : QX} (h : Cs ns cs) (hN : ∀ n ∈ ns, Nm n) (hz : ns.length ≤ 8) (q : Q (.dat (shO (keptL (cs.map Prod.snd)))) μ) : S_law_new.run [.dat (.lst (cs.map clD))] μ Q X := by
  have hc := h.cl hN hz
  have hb : badAt (cs.map clD) [] 0 = none := by
    have := bad_good (cs := cs) (es := []) (i := 0) (rest := []) (fun c hc' n hn => (hc c.2 (List.mem_map_of_mem hc')).1 n hn) (by simpa using h.nd)
    rw [List.append_nil] at this
    rw [this]; rfl
  refine ⟨_, rfl, fun d hd => ?_, by rw [List.length_map]; exact h.few, ⟨fun i e => (by rw [hb] at e; cases e), fun _ => (by rw [kept_cl h]; exact q)⟩⟩
  obtain ⟨c, hc', rfl⟩ := List.mem_map.mp hd
  exact ok_cl (hc c.2 (List.mem_map_of_mem hc'))
theorem Cs.rev (h : Cs ns cs) : Cs ns cs.reverse := by
  have p : ((cs.reverse.map Prod.snd).flatten).Perm (cs.map Prod.snd).flatten := List.Perm.flatten ((List.reverse_perm cs).map _)
  exact ⟨by rw [List.length_reverse]; exact h.few, p.nodup_iff.mpr h.nd, fun x hx => h.on x (p.mem_iff.mp hx)⟩
theorem eqT_self {xs : List D} (h : gd (.tup xs)) : eqD (.tup xs) (.tup xs) = some true := by
  obtain ⟨p, h1, h2, h3⟩ := h
  show ((toPy (.tup xs)).bind fun p => (toPy (.tup xs)).bind fun q => eqP p q) = _
  rw [h1]
  show eqP p p = _
  unfold eqP
  have sh : SeqAt.shaped p = true := by
    unfold SeqAt.shaped
    rw [h2, Bool.true_and]
    exact decide_eq_true (by omega)
  rw [sh]
  show some (PyData.eqv p p) = _
  rw [SeqAt.eqv_refl p h2]
theorem gd_int {i : Int} : ∃ p, toPy (.int i) = some p ∧ p.canLay0 = true ∧ p.depth ≤ 61 := ⟨.int i, rfl, by simp [PyData.canLay0], by simp [PyData.depth]⟩
theorem gd_bl {b : Bool} : ∃ p, toPy (.bl b) = some p ∧ p.canLay0 = true ∧ p.depth ≤ 61 := ⟨.bool b, rfl, by simp [PyData.canLay0], by simp [PyData.depth]⟩
theorem gd_s {z : Str} (h : PyData.strOk z = true) : ∃ p, toPy (.str z) = some p ∧ p.canLay0 = true ∧ p.depth ≤ 61 := ⟨.str z, rfl, by simp only [PyData.canLay0]; exact h, by simp [PyData.depth]⟩
theorem eq_bad {i : Int} : eqD (.tup [.str "bad", .int i, .bl true]) (.tup [.str "bad", .int i, .bl true]) = some true := eqT_self (gd_tup fun x hx => by
  simp at hx
  rcases hx with rfl | rfl | rfl
  · exact gd_s (by decide +kernel)
  · exact gd_int
  · exact gd_bl)
theorem eq_none {t : Str} (h : PyData.strOk t = true) : eqD (.tup [.str "none", .str t]) (.tup [.str "none", .str t]) = some true := eqT_self (gd_tup fun x hx => by
  simp at hx
  rcases hx with rfl | rfl
  · exact gd_s (by decide +kernel)
  · exact gd_s h)
theorem ok_any {d : D} (h : (tyD d).isSome = true) (h' : itemsD d = none) : okC d := ⟨h, fun xs e => by rw [h'] at e; cases e⟩
/-- a thing that no class is -/
def BadC (d : D) : Prop := okC d ∧ ∀ es, isCls es d = false
theorem bad_no {d : D} (h : (tyD d).isSome = true) (h' : itemsD d = none) : BadC d := ⟨ok_any h h', fun es => by unfold isCls; rw [h']⟩
theorem run_bad {Q : QV} {X : QX} {as : List (Bool × List Str)} {d : D} {rest : List D} (ha : (as.map Prod.snd).flatten.Nodup) (hN : ∀ c ∈ as, (∀ n ∈ c.2, Nm n) ∧ c.2.length ≤ 1000) (hd : okC d) (hb : isCls (as.map Prod.snd).flatten d = false) (hr : ∀ d ∈ rest, okC d) (hl : as.length + (rest.length + 1) ≤ 3) (q : Q (.dat (.tup [.str "bad", .int as.length, .bl true])) μ) :
    S_law_refused.run [.dat (.lst (as.map clD ++ d :: rest))] μ Q X := by
  refine ⟨_, as.length, rfl, fun x hx => ?_, by simp; omega, ?_, q⟩
  · rcases List.mem_append.mp hx with z | z
    · obtain ⟨c, hc, rfl⟩ := List.mem_map.mp z
      exact ok_cl (hN c hc)
    · rcases List.mem_cons.mp z with rfl | z
      · exact hd
      · exact hr x z
  · rw [bad_good (es := []) (i := 0) (fun c hc => (hN c hc).1) (by simpa using ha)]
    show (if isCls _ d = true then _ else _) = _
    rw [List.nil_append, hb]
    simp
variable {g : Mu} {o : O}
theorem w_R2 (t : Tn ns cs ds one other due sh) (hK : ∀ ρ', Ok 16 μ ρ' → K.nx ρ' (St μ o g)) : wpS R_law_2 (rho μ ns cs ds one other due sh wide r0 r2 r9 r11 r12 r14 r15) (St μ o g) K := by
  have hc := t.clc
  have hin : ∀ x ∈ sh, x ∈ (cs.map Prod.snd).flatten := fun x hx => by
    rw [t.e4, t.e3] at hx
    obtain ⟨k, hk, hx⟩ := List.mem_flatten.mp hx
    obtain ⟨c, hc, _, rfl⟩ := due_mem.mp hk
    exact List.mem_flatten.mpr ⟨c, hc, sortS_mem.mp hx⟩
  have gds' : ∀ x ∈ sh.map D.str, gd x := fun x hx => by
    obtain ⟨n, hn, rfl⟩ := List.mem_map.mp hx
    exact gd_str (t.N n (t.c.on n (hin n hn))).2.2
  clear hc
  have hc := t.clc
  unfold R_law_2
  match sh, t, hin, gds' with
  | [], t, hin, gds' =>
    have ee : eqD (.lst []) (.lst []) = some true := rfl
    simp [↓wpS, ↓wpT, ↓wpE, ↓wpA, ↓wpI, ↓opt, ee]
    exact hK _ ⟨rfl, rfl⟩
  | x :: xs, t, hin, gds' =>
    have ee := eqD_nil gds'
    rw [List.map_cons] at ee
    simp [↓wpS, ↓wpT, ↓wpE, ↓wpA, ↓wpI, ↓opt, ee]
    split
    · rename_i h3
      have h3' : cs.length < 3 := by omega
      have hz : (cs.map clD).length + [D.lst [.str x]].length ≤ 16777216 := by simp; omega
      have hx := hin x List.mem_cons_self
      have nx : Nm x := t.N x (t.c.on x hx)
      simp [add_lst hz]
      refine run_bad t.c.nd (fun c hc' => hc c.2 (List.mem_map_of_mem hc')) ⟨rfl, fun xs e => ?_⟩ ?_ (by simp) (by simp; omega) ?_
      · cases e
        exact ⟨fun y hy => by simp at hy; subst hy; exact nx.plain, by simp⟩
      · unfold isCls
        have hx' : (cs.map Prod.snd).flatten.contains x = true := List.contains_iff_mem.mpr hx
        simp only [itemsD, txs, txtsD, strsD, Option.map_some, Option.getD_some, List.any_cons, hx', Bool.true_or, Bool.not_true, Bool.and_false]
      · simp [eq_bad]
        exact hK _ ⟨rfl, rfl⟩
    · exact hK _ ⟨rfl, rfl⟩
theorem w_R3 {bad : D} (t : Tn ns cs ds one other due sh) (hb : BadC bad) (hK : ∀ ρ', Ok 16 μ ρ' → K.nx ρ' (St μ o g)) : wpS R_law_3 (rho μ ns cs ds one other due sh wide r0 r2 r9 r11 r12 r14 (some (.dat bad))) (St μ o g) K := by
  have hc := t.clc
  unfold R_law_3
  obtain ⟨as, has⟩ : ∃ as, as = cs.take 1 := ⟨_, rfl⟩
  have e1 : cutD (cs.map clD) none (some 1) = as.map clD := by rw [has, List.map_take]; exact cut_to (n := 1)
  have l1 : as.length ≤ 1 := by rw [has, List.length_take]; omega
  have hz : (as.map clD).length + [bad, .non].length ≤ 16777216 := by simp; omega
  have sub : as.Sublist cs := by rw [has]; exact List.take_sublist _ _
  have nd : (as.map Prod.snd).flatten.Nodup := t.c.nd.sublist (flat_sub (sub.map _))
  simp [↓wpS, ↓wpT, ↓wpE, ↓wpA, ↓wpI, ↓wpO, ↓opt, e1, add_lst hz]
  refine run_bad nd (fun c hc' => hc c.2 (List.mem_map_of_mem (sub.subset hc'))) hb.1 (hb.2 _) (fun d hd => ?_) (by simp; omega) ?_
  · simp at hd
    subst hd
    exact ok_any rfl rfl
  · simp [eq_bad]
    exact w_R2 t hK
theorem ne_set {n : Str} : (setTs [n, n]).length = 1 := by
  have : setTs [n, n] = [n] := by simp [setTs, addT]
  rw [this]; rfl
theorem w_R4 (t : Tn ns cs ds one other due sh) (ho : Src o) (hK : ∀ o' g' ρ', Src o' → Ok 16 μ ρ' → K.nx ρ' (St μ o' g')) : wpS R_law_4 (rho μ ns cs ds one other due sh wide r0 r2 r9 r11 r12 r14 r15) (St μ o g) K := by
  have hl := t.l
  match ns, hl, t with
  | n0 :: ns', hl, t =>
    have n0n : Nm n0 := t.N n0 List.mem_cons_self
    unfold R_law_4
    simp [↓wpS, ↓wpT, ↓wpE, ↓wpA, ↓wpI, ↓opt]
    refine ⟨_, _, _, o, rfl, St_get, ho, rfl, by simp, by simp, fun x o' hx ho' => ?_⟩
    have hb : BadC x := by
      simp at hx
      rcases hx with rfl | rfl | rfl | rfl | rfl | rfl
      · exact bad_no rfl rfl
      · exact bad_no rfl rfl
      · refine ⟨⟨rfl, fun xs e => ?_⟩, fun es => ?_⟩
        · cases e
          exact ⟨fun y hy => by simp at hy; subst hy; exact n0n.plain, by simp⟩
        · unfold isCls
          simp [itemsD, txs, txtsD, strsD, ne_set]
      · refine ⟨⟨rfl, fun xs e => ?_⟩, fun es => ?_⟩
        · cases e
          refine ⟨fun y hy => ?_, by simp⟩
          simp at hy
          rcases hy with rfl | rfl
          · exact n0n.plain
          · exact plain_str (by decide +kernel)
        · have : isName (.str "") = false := by decide +kernel
          unfold isCls
          simp [itemsD, this]
      · refine ⟨⟨rfl, fun xs e => ?_⟩, fun es => ?_⟩
        · cases e
          refine ⟨fun y hy => ?_, by simp⟩
          simp at hy
          subst hy
          exact ⟨rfl, fun z e => by cases e⟩
        · unfold isCls
          simp [itemsD, isName]
      · exact bad_no rfl rfl
    simp
    show wpS R_law_3 (rho μ (n0 :: ns') cs ds one other due sh wide r0 r2 r9 r11 r12 r14 (some (.dat x))) _ K
    refine w_R3 t hb ?_
    exact fun ρ' q => hK _ _ _ ho' q
/-- a thing that is no name -/
def Odd (d : D) : Prop := plainD d ∧ isName d = false ∧ (∃ t, shD d = some t ∧ PyData.strOk t = true) ∧ ∀ ks : List (List Str), ClN ks → inSh ks d = false
theorem w_R5 {odd : D} (t : Tn ns cs ds one other due sh) (ho : Src o) (hd : Odd odd) (hK : ∀ o' g' ρ', Src o' → Ok 16 μ ρ' → K.nx ρ' (St μ o' g')) : wpS R_law_5 (rho μ ns cs ds one other due sh wide r0 r2 r9 r11 r12 (some (.dat odd)) r15) (St μ o g) K := by
  obtain ⟨h1, h2, ⟨tx, h3, h4⟩, h5⟩ := hd
  have hc := t.cl1
  unfold R_law_5
  have er : biD .repr [odd] = some (.str tx) := by show (shD odd).map D.str = _; rw [h3]; rfl
  have el : biL .repr [odd] = none := biL_no (fun z => nomatch z) fun z => nomatch z
  simp only [↓wpS, ↓wpT, ↓wpE, ↓wpA, ↓wpI, ↓opt]
  simp
  refine ⟨one, odd, tx, rfl, h1, by have := t.len1; omega, h2, h3, ?_⟩
  simp [er, el, eq_none h4]
  refine run_in h1.1 ?_
  rw [h5 _ hc]
  simp
  exact w_R4 t ho hK
theorem sh_one {n : Str} (h : Nm n) : ∃ t, shD (.tup [.str n]) = some t ∧ PyData.strOk t = true := by
  have hn : ∀ m ∈ [n], Nm m := fun m hm => by simp at hm; subst hm; exact h
  refine ⟨_, sh_strs (ns := [n]) hn (by simp), ?_⟩
  have := lay_key hn (by simp)
  rw [keyL_eq hn (by simp)] at this
  exact lay_ok this
theorem odd_str {z t : Str} (hp : plainD (.str z)) (hn : isName (.str z) = false) (ht : shD (.str z) = some t) (ho : PyData.strOk t = true) : Odd (.str z) := by
  refine ⟨hp, hn, ⟨t, ht, ho⟩, fun ks hk => ?_⟩
  unfold inSh
  rw [List.any_eq_false]
  intro k hk' e
  have : Nm z := (hk k hk').1 z (List.contains_iff_mem.mp e)
  rw [name_ok this] at hn
  cases hn
theorem odd_no {d : D} {t : Str} (hp : plainD d) (hn : ∀ z, d ≠ .str z) (ht : shD d = some t) (ho : PyData.strOk t = true) : Odd d := by
  refine ⟨hp, ?_, ⟨t, ht, ho⟩, fun ks hk => ?_⟩
  · cases d <;> first | rfl | exact absurd rfl (hn _)
  · unfold inSh
    rw [List.any_eq_false]
    intro k hk' e
    cases d <;> first | cases e | exact absurd rfl (hn _)
theorem w_R6 (t : Tn ns cs ds one other due sh) (ho : Src o) (hK : ∀ o' g' ρ', Src o' → Ok 16 μ ρ' → K.nx ρ' (St μ o' g')) : wpS R_law_6 (rho μ ns cs ds one other due sh wide r0 r2 r9 r11 r12 r14 r15) (St μ o g) K := by
  have hl := t.l
  match ns, hl, t with
  | n0 :: ns', hl, t =>
    have n0n : Nm n0 := t.N n0 List.mem_cons_self
    unfold R_law_6
    simp [↓wpS, ↓wpT, ↓wpE, ↓wpA, ↓wpI, ↓opt]
    refine ⟨_, _, _, o, rfl, St_get, ho, rfl, by simp, by simp, fun x o' hx ho' => ?_⟩
    have hb : Odd x := by
      simp at hx
      rcases hx with rfl | rfl | rfl | rfl | rfl
      · exact odd_no (t := "None") ⟨rfl, fun z e => by cases e⟩ (fun z e => by cases e) (by decide +kernel) (by decide +kernel)
      · exact odd_str (t := "''") (plain_str (by decide +kernel)) (by decide +kernel) (by decide +kernel) (by decide +kernel)
      · exact odd_no (t := "3") ⟨rfl, fun z e => by cases e⟩ (fun z e => by cases e) (by decide +kernel) (by decide +kernel)
      · obtain ⟨t, e1, e2⟩ := sh_one n0n
        exact odd_no ⟨rfl, fun z e => by cases e⟩ (fun z e => by cases e) e1 e2
      · exact odd_str (t := "'A'") (plain_str (by decide +kernel)) (by decide +kernel) (by decide +kernel) (by decide +kernel)
    simp
    show wpS R_law_5 (rho μ (n0 :: ns') cs ds one other due sh wide r0 r2 r9 r11 r12 (some (.dat x)) r15) _ K
    exact w_R5 t ho' hb hK
theorem w_R7 (t : Tn ns cs ds one other due sh) (ho : Src o) (hK : ∀ o' g' ρ', Src o' → Ok 16 μ ρ' → K.nx ρ' (St μ o' g')) : wpS R_law_7 (rho μ ns cs ds one other due sh wide r0 r2 r9 r11 r12 r14 r15) (St μ o g) K := by
  have en : ∀ a : Bool, eqD (.bl a) (.bl a) = some true := fun a => by cases a <;> rfl
  have e0 : decide (one = other) = (leL one other && leL other one) := by rw [t.e1, t.e2]; exact eq_le t.c.nd t.d.nd t.clc
  have last : wpS R_law_6 (rho μ ns cs ds one other due sh wide r0 r2 r9 r11 r12 r14 r15) (St μ o g) K := w_R6 t ho hK
  have rr : (cs.map clD).reverse = cs.reverse.map clD := by rw [List.map_reverse]
  have tail : ∀ {X : QX} {Q : QV}, Q (.dat (.bl true)) (St μ o g) → S_Sharing_eq.run [.dat (shO one), .dat (shO (keptL (cs.reverse.map Prod.snd)))] (St μ o g) Q X := fun q => by
    have e : keptL (cs.reverse.map Prod.snd) = one := by rw [t.e1, List.map_reverse]; exact kept_rev t.c.nd t.clc
    rw [e]
    exact run_eqS t.cl1 t.cl1 (by simpa using q)
  unfold R_law_7
  simp only [↓wpS, ↓wpT, ↓wpE, ↓wpA, ↓wpI, ↓opt]
  simp
  refine run_eqS t.cl1 t.cl2 ?_
  rw [e0]
  simp
  refine run_le (bk_le.mpr ?_)
  have e8 : ns.length ≤ 8 := by have := t.l; omega
  cases h1 : leL one other
  · have ef : eqD (.bl false) (.bl false) = some true := rfl
    simp only [Bool.false_and, ef, Option.map_some, Bool.not_true, Bool.false_eq_true, if_false]
    refine ⟨rfl, run_eqd rfl (bk_eqd.mpr ?_)⟩
    simp only [vw_dat, tru_bl, Bool.false_eq_true, if_false, rr]
    refine run_newC t.c.rev t.N e8 ⟨rfl, by simp, tail ?_⟩
    rw [bk_ne]
    exact last
  · refine run_le (bk_le.mpr ?_)
    simp only [vw_dat, Bool.true_and, en, Option.map_some, Bool.not_true, Bool.false_eq_true, if_false]
    refine ⟨rfl, run_eqd rfl (bk_eqd.mpr ?_)⟩
    simp only [vw_dat, tru_bl, Bool.false_eq_true, if_false, rr]
    refine run_newC t.c.rev t.N e8 ⟨rfl, by simp, tail ?_⟩
    rw [bk_ne]
    exact last
def tf (b : Bool) : Str := if b then "True" else "False"
theorem sh_bl (b : Bool) : shD (.bl b) = some (tf b) := by cases b <;> decide +kernel
theorem w_R8 (t : Tn ns cs ds one other due sh) (ho : Src o) (hK : ∀ o' g' ρ', Src o' → Ok 16 μ ρ' → K.nx ρ' (St μ o' g')) : wpS R_law_8 (rho μ ns cs ds one other due sh wide r0 r2 r9 r11 r12 r14 r15) (St μ o g) K := by
  have last : wpS R_law_7 (rho μ ns cs ds one other due sh wide r0 r2 r9 r11 r12 r14 r15) (St μ o g) K := w_R7 t ho hK
  have e8 : ns.length ≤ 8 := by have := t.l; omega
  have ef : leL one other = finerL ns (cs.map Prod.snd) (ds.map Prod.snd) := by rw [t.e1, t.e2]; exact le_finer t.c.nd t.d.nd t.c.on
  have er : ∀ b : Bool, biD .repr [.bl b] = some (.str (tf b)) := fun b => by show (shD (.bl b)).map D.str = _; rw [sh_bl]; rfl
  have el : ∀ d, biL .repr [d] = none := fun d => biL_no (fun z => nomatch z) fun z => nomatch z
  unfold R_law_8
  simp only [↓wpS, ↓wpT, ↓wpE, ↓wpA, ↓wpI, ↓opt]
  simp
  refine run_le (bk_le.mpr ?_)
  simp [er, el]
  refine ⟨ns, cs, ds, rfl, ?_⟩
  rw [← ef]
  simp [er, el, ne_str]
  have k0 : keptD [] = [] := by simp [keptD, sortL]
  refine run_Sharing (ds := []) (fun d hd => by cases hd) (by simp) ⟨fun i e => (by cases e), fun _ => ?_⟩
  rw [k0]
  refine ⟨rfl, by simp, run_le (bk_le.mpr ?_)⟩
  rw [le_nil]
  simp
  refine run_le (bk_le.mpr ?_)
  rw [le_self]
  simp
  exact last
theorem names_loop (t : Tn ns cs ds one other due sh) : ∀ (xs : List Str) (r11 : Option RV) (K : Kt), (∀ x ∈ xs, x ∈ ns) → (∀ r11, K.nx (rho μ ns cs ds one other due sh wide r0 r2 r9 r11 r12 r14 r15) (St μ o g)) →
    forL (tgD (.nm 11)) (fun ρ μ K => wpS B_law_1 ρ μ K) K (xs.map .str) (rho μ ns cs ds one other due sh wide r0 r2 r9 r11 r12 r14 r15) (St μ o g)
  | [], r11, K, _, hn => hn r11
  | x :: xs, r11, K, hx, hn => by
    refine forL_cons (ρ' := rho μ ns cs ds one other due sh wide r0 r2 r9 (some (.dat (.str x))) r12 r14 r15) rfl fun K' hnx hct hbk hrt hex => ?_
    have nx : Nm x := t.N x (hx x List.mem_cons_self)
    have e1 : callL one x = placeL (cs.map Prod.snd) x := by rw [t.e1]; exact call_place (dj_of t.c.nd) x
    have e2 : inSh one (.str x) = sh.contains x := by rw [t.e4, t.e3, ← any_shared, t.e1]; rfl
    have en : ∀ a : Bool, eqD (.bl a) (.bl a) = some true := fun a => by cases a <;> rfl
    unfold B_law_1
    simp only [↓wpS, ↓wpT, ↓wpE, ↓wpA, ↓wpI, ↓opt]
    simp
    refine run_call nx (by have := t.len1; omega) (run_place ?_)
    rw [e1]
    simp [ne_str]
    refine run_in rfl (bk_inn.mpr ?_)
    rw [e2]
    simp [in_strs, en, hnx]
    exact names_loop t xs _ K (fun y hy => hx y (List.mem_cons_of_mem _ hy)) hn
theorem w_R9 (t : Tn ns cs ds one other due sh) (ho : Src o) (hK : ∀ o' g' ρ', Src o' → Ok 16 μ ρ' → K.nx ρ' (St μ o' g')) : wpS R_law_9 (rho μ ns cs ds one other due sh wide r0 r2 r9 r11 r12 r14 r15) (St μ o g) K := by
  unfold R_law_9
  simp [↓wpS, ↓wpT, ↓wpE, ↓wpA, ↓wpI, ↓opt, seqD]
  refine names_loop t ns _ _ (fun x hx => hx) fun r11 => ?_
  exact w_R8 t ho hK
/-- the slots with what is shared so far -/
theorem shared_loop {du all : List (List Str)} : ∀ (ks pre : List (List Str)) (r12 : Option RV) (K : Kt), all = pre ++ ks → all.flatten.length ≤ 1000 → (∀ r12, K.nx (rho μ ns cs ds one other du all.flatten wide r0 r2 r9 r11 r12 r14 r15) (St μ o g)) →
    forL (tgD (.nm 12)) (fun ρ μ K => wpS B_law_0 ρ μ K) K (ks.map tupS) (rho μ ns cs ds one other du pre.flatten wide r0 r2 r9 r11 r12 r14 r15) (St μ o g)
  | [], pre, r12, K, e, _, hn => by
    rw [List.append_nil] at e
    subst e
    exact hn r12
  | k :: ks, pre, r12, K, e, hz, hn => by
    refine forL_cons (ρ' := rho μ ns cs ds one other du pre.flatten wide r0 r2 r9 r11 (some (.dat (tupS k))) r14 r15) rfl fun K' hnx hct hbk hrt hex => ?_
    have ih := shared_loop ks (pre ++ [k]) (some (.dat (tupS k))) K (by rw [e]; simp) hz hn
    have ef : (pre ++ [k]).flatten = pre.flatten ++ k := by simp
    have hl : (pre.flatten.map D.str).length + (k.map D.str).length ≤ 16777216 := by
      rw [e] at hz
      simp only [List.flatten_append, List.flatten_cons, List.length_append] at hz
      rw [List.length_map, List.length_map]
      omega
    rw [ef] at ih
    revert ih hl
    generalize pre.flatten = p
    intro ih hl
    unfold B_law_0
    simp [↓wpS, ↓wpT, ↓wpE, ↓wpA, ↓wpI, ↓opt, tupS, add_lst hl, hnx]
    rw [← List.map_append]
    exact ih
theorem w_R11 (t : Tn ns cs ds one other due due.flatten) (ho : Src o) {r13 : Option RV} (hK : ∀ o' g' ρ', Src o' → Ok 16 μ ρ' → K.nx ρ' (St μ o' g')) :
    wpS R_law_11 [r0, some (.loc μ.length), r2, some (.dat (.lst (ns.map .str))), some (.dat (.lst (cs.map clD))), some (.dat (.lst (ds.map clD))), some (.dat (shO one)), some (.dat (shO other)), some (.dat wide), r9, some (.dat (.lst (due.map tupS))), r11, r12, r13, r14, r15] (St μ o g) K := by
  have hz : due.flatten.length ≤ 1000 := by
    have sub : ∀ x ∈ due.flatten, x ∈ ns := fun x hx => by
      rw [t.e3] at hx
      obtain ⟨k, hk, hx⟩ := List.mem_flatten.mp hx
      obtain ⟨c, hc, _, rfl⟩ := due_mem.mp hk
      exact t.c.on x (List.mem_flatten.mpr ⟨c, hc, sortS_mem.mp hx⟩)
    have nd : due.flatten.Nodup := by rw [t.e3]; exact map_flat (filter_flat _ t.c.nd)
    have := nd_sub nd sub
    have := t.l
    omega
  unfold R_law_11 R_law_10
  simp [↓wpS, ↓wpT, ↓wpE, ↓wpA, ↓wpI, ↓opt, seqD]
  refine shared_loop (all := due) (du := due) due [] _ _ rfl hz fun r12 => ?_
  exact w_R9 t ho hK
end
end DL.K28

namespace DL.K28
open PySem PySem.Spec PyProof.Rows L2

section
variable {μ : Mu} {K : Kt} {ns : List Str} {cs ds : List (Bool × List Str)} {r0 r2 r6 r7 r8 r9 r10 r11 r12 r13 r14 r15 : Option RV} {wide : D} {one other due : List (List Str)} {sh : List Str} {g : Mu} {o : O}
theorem run_classes {Q : QV} {X : QX} (h : Q (.dat (.lst (one.map tupS))) μ) : S_Sharing_classes.run [.dat (shO one)] μ Q X := ⟨one, rfl, h⟩
theorem ix_hd {k : List Str} (h : k ≠ []) : ixD (tupS k) (.int 0) = some (.str (hd0 k "")) := by
  match k, h with
  | a :: k, _ => simp [tupS, hd0]
theorem Tn.ne1 (t : Tn ns cs ds one other due sh) : ∀ k ∈ one, k ≠ [] := fun k hk => by
  rw [t.e1] at hk
  exact due_ne k ((sortL_perm _).mem_iff.mp hk)
theorem Tn.low1 (t : Tn ns cs ds one other due sh) : ∀ z ∈ one.map (fun k => hd0 k ""), low z := by
  intro z hz
  obtain ⟨k, hk, rfl⟩ := List.mem_map.mp hz
  match k, t.ne1 k hk, hk with
  | a :: k, _, hk => exact ((t.cl1 _ hk).1 a List.mem_cons_self).2.2
theorem w_R12 (t : Tn ns cs ds one other due due.flatten) (ho : Src o) (hK : ∀ o' g' ρ', Src o' → Ok 16 μ ρ' → K.nx ρ' (St μ o' g')) :
    wpS R_law_12 [r0, some (.loc μ.length), r2, some (.dat (.lst (ns.map .str))), some (.dat (.lst (cs.map clD))), some (.dat (.lst (ds.map clD))), some (.dat (shO one)), some (.dat (shO other)), some (.dat wide), r9, some (.dat (.lst (due.map tupS))), r11, r12, r13, r14, r15] (St μ o g) K := by
  have last : wpS R_law_11 [r0, some (.loc μ.length), r2, some (.dat (.lst (ns.map .str))), some (.dat (.lst (cs.map clD))), some (.dat (.lst (ds.map clD))), some (.dat (shO one)), some (.dat (shO other)), some (.dat wide), r9, some (.dat (.lst (due.map tupS))), r11, r12, r13, r14, r15] (St μ o g) K := w_R11 t ho hK
  have hs : sortS (one.map fun k => hd0 k "") = one.map fun k => hd0 k "" := by rw [t.e1]; exact heads_sorted t.clc ""
  unfold R_law_12
  simp only [↓wpS, ↓wpT, ↓wpE, ↓wpA, ↓wpI, ↓opt]
  simp
  refine run_classes ?_
  simp [seqD]
  refine compL_map (as := one) (g := tupS) (p := fun _ => true) (f := fun k => .str (hd0 k "")) (fun k hk => ⟨_, rfl, fun _ q => q, fun _ Q' q => ?_⟩) ?_
  · simp [wipeR, Tg.slots, ix_hd (t.ne1 k hk)]
    exact q
  · rw [filt_tt]
    refine run_classes ?_
    simp [seqD]
    refine compL_map (as := one) (g := tupS) (p := fun _ => true) (f := fun k => .str (hd0 k "")) (fun k hk => ⟨_, rfl, fun _ q => q, fun _ Q' q => ?_⟩) ?_
    · simp [wipeR, Tg.slots, ix_hd (t.ne1 k hk)]
      exact q
    · rw [filt_tt]
      have e : (one.map fun k => D.str (hd0 k "")) = (one.map fun k => hd0 k "").map D.str := by rw [List.map_map]; rfl
      rw [e, strs_map]
      simp only [Option.map_some]
      rw [hs]
      have eq := eq_lays fun z hz => low_lay (t.low1 z hz)
      simp only [eq, Option.map_some, tru_bl, Bool.not_true, Bool.false_eq_true, if_false]
      exact last
theorem w_R13 (t : Tn ns cs ds one other due due.flatten) (ho : Src o) (hK : ∀ o' g' ρ', Src o' → Ok 16 μ ρ' → K.nx ρ' (St μ o' g')) :
    wpS R_law_13 [r0, some (.loc μ.length), r2, some (.dat (.lst (ns.map .str))), some (.dat (.lst (cs.map clD))), some (.dat (.lst (ds.map clD))), some (.dat (shO one)), some (.dat (shO other)), some (.dat wide), r9, some (.dat (.lst (due.map tupS))), r11, r12, r13, r14, r15] (St μ o g) K := by
  have last : wpS R_law_12 [r0, some (.loc μ.length), r2, some (.dat (.lst (ns.map .str))), some (.dat (.lst (cs.map clD))), some (.dat (.lst (ds.map clD))), some (.dat (shO one)), some (.dat (shO other)), some (.dat wide), r9, some (.dat (.lst (due.map tupS))), r11, r12, r13, r14, r15] (St μ o g) K := w_R12 t ho hK
  have cld : ClN due := by rw [t.e3]; exact t.clc.due
  have hp : one.Perm due := by rw [t.e1, t.e3]; exact sortL_perm _
  have hs : sortS (one.map keyL) = sortS (due.map keyL) := sortS_perm (hp.map _)
  unfold R_law_13
  simp only [↓wpS, ↓wpT, ↓wpE, ↓wpA, ↓wpI, ↓opt]
  simp
  refine run_classes ?_
  simp [seqD]
  refine compL_map (as := one) (g := tupS) (p := fun _ => true) (f := fun k => .str (keyL k)) (fun k hk => ⟨_, rfl, fun _ q => q, fun _ Q' q => ?_⟩) ?_
  · simp [wipeR, Tg.slots, bi_strT (t.cl1 k hk).1 (t.cl1 k hk).2]
    exact q
  · rw [filt_tt]
    have e : (one.map fun k => D.str (keyL k)) = (one.map keyL).map D.str := by rw [List.map_map]; rfl
    have e' : (due.map fun k => D.str (keyL k)) = (due.map keyL).map D.str := by rw [List.map_map]; rfl
    rw [e, strs_map]
    simp only [Option.map_some]
    refine compL_map (as := due) (g := tupS) (p := fun _ => true) (f := fun k => .str (keyL k)) (fun k hk => ⟨_, rfl, fun _ q => q, fun _ Q' q => ?_⟩) ?_
    · simp [wipeR, Tg.slots, bi_strT (cld k hk).1 (cld k hk).2]
      exact q
    · rw [filt_tt, e', strs_map]
      simp only [Option.map_some]
      rw [hs]
      have eq : eqD (.lst ((sortS (due.map keyL)).map .str)) (.lst ((sortS (due.map keyL)).map .str)) = some true := eq_lays fun z hz => by
        obtain ⟨k, hk, rfl⟩ := List.mem_map.mp (sortS_mem.mp hz)
        exact lay_key (cld k hk).1 (cld k hk).2
      simp only [eq, Option.map_some, tru_bl, Bool.not_true, Bool.false_eq_true, if_false]
      exact last
theorem w_R15 (hc : Cs ns cs) (hd : Cs ns ds) (hN : ∀ n ∈ ns, Nm n) (hl : ns.length = 8) (ho : Src o) (hK : ∀ o' g' ρ', Src o' → Ok 16 μ ρ' → K.nx ρ' (St μ o' g')) :
    wpS R_law_15 [r0, some (.loc μ.length), r2, some (.dat (.lst (ns.map .str))), some (.dat (.lst (cs.map clD))), some (.dat (.lst (ds.map clD))), some (.dat (shO (keptL (cs.map Prod.snd)))), some (.dat (shO (keptL (ds.map Prod.snd)))), r8, r9, r10, r11, r12, r13, r14, r15] (St μ o g) K := by
  have ln : ∀ c : Bool × List Str, biD .len [clD c] = some (.int c.2.length) := fun c => by unfold clD tupS; split <;> simp
  obtain ⟨one, e1⟩ : ∃ one, one = keptL (cs.map Prod.snd) := ⟨_, rfl⟩
  obtain ⟨other, e2⟩ : ∃ other, other = keptL (ds.map Prod.snd) := ⟨_, rfl⟩
  obtain ⟨due, e3⟩ : ∃ due, due = dueL (cs.map Prod.snd) := ⟨_, rfl⟩
  have t : Tn ns cs ds one other due due.flatten := ⟨hc, hd, hN, hl, e1, e2, e3, rfl⟩
  rw [← e1, ← e2]
  unfold R_law_15 R_law_14
  simp only [↓wpS, ↓wpT, ↓wpE, ↓wpA, ↓wpI, ↓opt]
  have sq : ∀ xs, seqD (D.lst xs) = some xs := fun _ => rfl
  simp [sq]
  refine compL_map (as := cs) (g := clD) (p := fun c => decide (1 < c.2.length)) (f := clD) (fun c hc' => ⟨_, rfl, fun Q' q => ?_, fun _ Q' q => ?_⟩) ?_
  · simp [wipeR, Tg.slots, ln]
    have e : decide ((1 : Int) < (c.2.length : Int)) = decide (1 < c.2.length) := by rw [decide_eq_decide]; omega
    rw [e]; exact q
  · simp [wipeR, Tg.slots]
    exact q
  · refine compL_map (as := cs.filter fun c => decide (1 < c.2.length)) (g := clD) (p := fun _ => true) (f := fun c => tupS (sortS c.2)) (fun c hc' => ⟨_, rfl, fun Q' q => q, fun _ Q' q => ?_⟩) ?_
    · simp [wipeR, Tg.slots, seq_cl]
      refine compL_map (as := c.2) (g := D.str) (p := fun _ => true) (f := D.str) (fun y hy => ⟨_, rfl, fun _ q => q, fun _ Q' q => ?_⟩) ?_
      · simp [wipeR, Tg.slots]
        exact q
      · rw [filt_tt]
        simp [strs_map]
        exact q
    · have e : (((cs.filter fun c => decide (1 < c.2.length)).filter fun _ => true).map fun c => tupS (sortS c.2)) = due.map tupS := by
        rw [filt_tt, e3]
        unfold dueL
        rw [List.filter_map, List.map_map, List.map_map]
        rfl
      rw [e]
      exact w_R13 t ho hK
theorem w_turn {ρ : Rho} (ho : Src o) (hρ : Ok 16 μ ρ) (hK : ∀ o' g' ρ', Src o' → Ok 16 μ ρ' → K.nx ρ' (St μ o' g')) : wpS B_law_18 ρ (St μ o g) K := by
  obtain ⟨r0, r1, r2, r3, r4, r5, r6, r7, r8, r9, r10, r11, r12, r13, r14, r15, rfl⟩ := len16 hρ.1
  have e1 : r1 = some (.loc μ.length) := by simpa using hρ.2
  subst e1
  unfold B_law_18 R_law_17
  simp [↓wpS, ↓wpT, ↓wpE, ↓wpA, ↓wpI, ↓opt]
  refine ⟨_, _, o, rfl, St_get, ho, by omega, by omega, fun ns o1 hl nd hN h1 => ?_⟩
  have hl8 : ns.length = 8 := by omega
  simp
  refine ⟨_, ns, o1, rfl, St_get, h1, by omega, nd, hN, fun cs o2 c1 c2 c3 h2 => ?_⟩
  have hc : Cs ns cs := ⟨c1, c2, c3⟩
  simp
  refine ⟨_, ns, o2, rfl, St_get, h2, by omega, nd, hN, fun ds o3 d1 d2 d3 h3 => ?_⟩
  have hd : Cs ns ds := ⟨d1, d2, d3⟩
  simp
  unfold R_law_16
  simp only [↓wpS, ↓wpT, ↓wpE, ↓wpA, ↓wpI, ↓opt]
  simp
  refine run_newC hc hN (by omega) ?_
  refine run_newC hd hN (by omega) ?_
  exact w_R15 hc hd hN hl8 h3 hK
end
theorem w_law : ∀ rs μ Q X, S_law.run rs μ Q X → wpS A_law (rs.map some ++ List.replicate (N_law.length - rs.length) none) μ (fin false μ.length Q X) := by
  rintro rs μ Q X ⟨cs, rfl, hQ⟩
  unfold A_law
  simp [↓wpS, ↓wpT, ↓wpE, ↓wpA, ↓wpI, ↓opt, N_law]
  refine ⟨cs, rfl, fun o ho => ?_⟩
  rw [St_mk]
  unfold R_law_20
  simp [↓wpS, ↓wpT, ↓wpE, ↓wpA, ↓wpI, ↓opt]
  refine ⟨by decide, ?_⟩
  refine turns (n := 16) (fun o g ρ K ho hρ hK => w_turn ho hρ hK) (fun o' g' ρ' h' hρ => ?_) 6 0 o [] _ ho ⟨rfl, rfl⟩
  dsimp only
  unfold R_law_19
  simp [↓wpS, ↓wpT, ↓wpE, ↓wpA, ↓wpI, ↓opt]
  exact hQ
end DL.K28

namespace DL
open PySem PySem.Spec PyProof.Rows L2

/-- what is asked of the module behind its top -/
inductive Fx where
  | glo (x : Str) | free (x : Str) | gi (x : Str) (i : Int) | gs (x z : Str)
  | cls (c : Str) | fl (c f : Str) | meth (c m : Str) | mk (c : Str)
  | xf (f : Str) (cs : List Str) | xi (x : Str) (tab : List (Str × Bool)) | xiB (n : String) (tab : List (Str × Bool)) | xt (x : Str) (tab : List (Str × Bool))
  | rs (c f : Str) | rk (c : Str) | nolist
  | ow (o : Oo) (c : Str) | co (c : Str) | isc (c : Str)
def eqB (a b : Option Bool) : Bool := decide (a = b)
def excB (K : PySem.W.Frag) (D : Addr) : Bool := He.eqO (PySem.W.findIn K (.ref D) "__getattribute__") (some (some (.builtin "BaseException.__getattribute__"))) && (He.eqO (PySem.W.findIn K (.ref D) "__getattr__") (some none) && (eqB (PySem.W.subIn K (.ref D) (.type "BaseException")) (some true) && (PySem.W.hasDictIn K D &&
  (He.eqO (PySem.W.findIn K (.ref D) "__class__") (some (some (.builtin "object.__class__"))) && (He.eqO (PySem.W.specialIn K (.builtin "object.__class__") "__get__") (some (some (.builtin "getset_descriptor.__get__"))) && (eqB (PySem.W.takesIn K (.builtin "object.__class__")) (some true) && eqB (PySem.W.mroIn K D (.type "object")) (some true)))))))
theorem exc_of {K : PySem.W.Frag} {D : Addr} (h : excB K D = true) : ExcC K D := by
  unfold excB at h
  simp only [Bool.and_eq_true] at h
  obtain ⟨h1, h2, h3, h4, h5, h6, h7, h8⟩ := h
  exact ⟨He.eqO_ok h1, He.eqO_ok h2, of_decide_eq_true h3, h4, He.eqO_ok h5, He.eqO_ok h6, of_decide_eq_true h7, of_decide_eq_true h8⟩
def Fx.ok (P : Program) (K : PySem.W.Frag) : Fx → Bool
  | .glo x => (He.Fa.glo x).ok K && (He.Fa.keep x).ok K
  | .free x => (He.Fa.free x).ok K
  | .gi x i => (He.Fa.int x i).ok K
  | .gs x z => (He.Fa.str x z).ok K
  | .cls c => (He.Fa.cls c).ok K
  | .fl c f => (He.Fa.noat c f).ok K
  | .meth c m => (He.Fa.meth c m).ok K
  | .mk c => (He.Fa.mkr c).ok K
  | .xf f cs => cs.all fun c => xfB K (He.ga K c) && (He.Fa.noat c f).ok K
  | .xi x tab => tab.all fun q => excB K (He.ga K q.1) && eqB (PySem.W.kitOne K (.ref (He.ga K q.1)) (.ref (He.ga K x))) (some q.2)
  | .xiB n tab => tab.all fun q => excB K (He.ga K q.1) && eqB (PySem.W.kitOne K (.ref (He.ga K q.1)) (.type n)) (some q.2)
  | .xt x tab => tab.all fun q => eqB (PySem.W.exmOne K (.ref (He.ga K q.1)) (.ref (He.ga K x))) (some q.2)
  | .rs c f => DX.x1B P K (He.ga K c) (He.ma K (He.ga K c) "__init__") f
  | .rk c => (He.Fa.exc c).ok K
  | .nolist => K.all fun q => !(q.2.cls == .type "list")
  | .ow o c => owB K o (He.ga K c) (He.ma K (He.ga K c) o.nm)
  | .co c => He.eqO (PySem.W.findIn K (.ref (He.ga K c)) "__call__") (some (some (.ref (He.ma K (He.ga K c) "__call__")))) && (PySem.W.isFn K (.ref (He.ma K (He.ga K c) "__call__")) && PySem.W.fnIn K (He.ma K (He.ga K c) "__call__"))
  | .isc c => isCB K (He.ga K c)
/-- where the facts stand -/
structure Zd (en : En) (fx : List Fx) : Prop where
  h : ∃ h : Heap, en.K.In h ∧ h.Ns mainGlobals en.mg
  fx : ∀ f ∈ fx, f.ok en.P en.K = true
section
variable {en : En} {fx : List Fx}
def En.at (en : En) (k : Nat) : En := { en with k := k }
theorem Zd.at (z : Zd en fx) (k : Nat) : Zd (en.at k) fx := ⟨z.h, z.fx⟩
theorem Zd.glo (z : Zd en fx) {x : Str} (m : Fx.glo x ∈ fx) : en.mg x = some (.ref (He.ga en.K x)) ∧ PySem.W.keepIn en.K (.ref (He.ga en.K x)) = true := by
  obtain ⟨h, X, G⟩ := z.h
  have c := z.fx _ m
  have c : ((He.Fa.glo x).ok en.K && (He.Fa.keep x).ok en.K) = true := c
  rw [Bool.and_eq_true] at c
  exact ⟨He.glo_ok X G c.1, He.keep_ok c.2⟩
theorem Zd.free (z : Zd en fx) {x : Str} (m : Fx.free x ∈ fx) : en.mg x = none := by
  obtain ⟨h, X, G⟩ := z.h
  exact He.free_ok X G (z.fx _ m)
theorem Zd.gi (z : Zd en fx) {x : Str} {i : Int} (m : Fx.gi x i ∈ fx) : en.Gv x (.int i) := by
  obtain ⟨h, X, G⟩ := z.h
  obtain ⟨t, e⟩ := He.int_ok X G (z.fx _ m)
  exact ⟨_, .int i, e, ⟨t, rfl⟩, fun _ => R.int i⟩
theorem Zd.gs (z : Zd en fx) {x y : Str} (m : Fx.gs x y ∈ fx) : en.Gv x (.str y) := by
  obtain ⟨h, X, G⟩ := z.h
  obtain ⟨t, e⟩ := He.str_ok X G (z.fx _ m)
  exact ⟨_, .str y, e, ⟨t, rfl⟩, fun _ => R.str y⟩
theorem Zd.fl (z : Zd en fx) {c f : Str} (m : Fx.cls c ∈ fx) (m2 : Fx.fl c f ∈ fx) : en.Fl c f := ⟨He.cls_ok (z.fx _ m), He.noat_ok (z.fx _ m2)⟩
theorem Zd.fn (z : Zd en fx) {x : Str} {S : Spc} {j : Nat} (m : Fx.glo x ∈ fx) (F : FnR en.P en.w en.K en.mg en.base (CX en.P en.w) j (He.ga en.K x) (lift en.K S)) (h : j ≤ en.k) : en.Fn x S :=
  ⟨(z.glo m).1, (z.glo m).2, (DL.FnR.callOk F).mono h⟩
theorem Zd.cm (z : Zd en fx) {c : Str} {Si : Spc} {j : Nat} (own : Bool) (m : Fx.glo c ∈ fx) (m2 : Fx.mk c ∈ fx) (F : FnR en.P en.w en.K en.mg en.base (CX en.P en.w) j (He.ma en.K (He.ga en.K c) "__init__") (lift en.K Si)) (h : j + 1 ≤ en.k) : en.Fn c (mkS own c Si) :=
  ⟨(z.glo m).1, (z.glo m).2, (mk_ok own (He.mkr_ok (z.fx _ m2)) F).mono h⟩
theorem Zd.me (z : Zd en fx) {c f : Str} {S : Spc} {j : Nat} (m : Fx.cls c ∈ fx) (m2 : Fx.meth c f ∈ fx) (F : FnR en.P en.w en.K en.mg en.base (CX en.P en.w) j (He.ma en.K (He.ga en.K c) f) (lift en.K S)) (h : j + 1 ≤ en.k) : en.Me c f S :=
  ⟨He.cls_ok (z.fx _ m), _, j, He.meth_ok (z.fx _ m2), F, h⟩
theorem Zd.ow (z : Zd en fx) {o : Oo} {c : Str} {S : Spc} {j : Nat} (m : Fx.meth c o.nm ∈ fx) (m2 : Fx.ow o c ∈ fx) (F : FnR en.P en.w en.K en.mg en.base (CX en.P en.w) j (He.ma en.K (He.ga en.K c) o.nm) (lift en.K S)) (h : j + 1 ≤ en.k) : en.Ow o c S :=
  ⟨_, j, He.meth_ok (z.fx _ m), F, h, z.fx _ m2⟩
theorem Zd.co (z : Zd en fx) {c : Str} {S : Spc} {j : Nat} (m : Fx.co c ∈ fx) (F : FnR en.P en.w en.K en.mg en.base (CX en.P en.w) j (He.ma en.K (He.ga en.K c) "__call__") (lift en.K S)) (h : j ≤ en.k) : en.Co c S := by
  have q := z.fx _ m
  have q : (He.eqO (PySem.W.findIn en.K (.ref (He.ga en.K c)) "__call__") (some (some (.ref (He.ma en.K (He.ga en.K c) "__call__")))) && (PySem.W.isFn en.K (.ref (He.ma en.K (He.ga en.K c) "__call__")) && PySem.W.fnIn en.K (He.ma en.K (He.ga en.K c) "__call__"))) = true := q
  simp only [Bool.and_eq_true] at q
  exact ⟨_, j, ⟨He.eqO_ok q.1, q.2.1, q.2.2⟩, F, h⟩
theorem Zd.is (z : Zd en fx) {c : Str} (m : Fx.cls c ∈ fx) (m2 : Fx.isc c ∈ fx) (m3 : Fx.glo c ∈ fx) : en.Is c := ⟨He.cls_ok (z.fx _ m), isC_of (z.fx _ m2), (z.glo m3).1⟩
theorem Zd.xf (z : Zd en fx) {f : Str} {cs : List Str} (m : Fx.xf f cs ∈ fx) : en.Xf f cs := by
  intro c hc
  have q := List.all_eq_true.mp (z.fx _ m) c hc
  rw [Bool.and_eq_true] at q
  exact ⟨xfB_ok q.1, He.noat_ok q.2⟩
theorem Zd.xi (z : Zd en fx) {x : Str} {tab : List (Str × Bool)} (m : Fx.glo x ∈ fx) (m2 : Fx.xi x tab ∈ fx) : en.Xi x tab := by
  refine ⟨.ref (He.ga en.K x), ⟨.inl (z.glo m).1, .ref (He.ga en.K x), rfl, fun u e => e⟩, fun q hq => ?_⟩
  have c := List.all_eq_true.mp (z.fx _ m2) q hq
  rw [Bool.and_eq_true] at c
  exact ⟨exc_of c.1, of_decide_eq_true c.2⟩
theorem Zd.xiB (z : Zd en fx) {n : String} {tab : List (Str × Bool)} (m : Fx.free (Str.ofString n) ∈ fx) (m2 : Fx.xiB n tab ∈ fx) (hb : bootBuiltins (Str.ofString n) = some (.type n)) (hn : Str.ofString n ≠ ("__name__" : Str)) : en.Xi (Str.ofString n) tab := by
  refine ⟨.type n, ⟨.inr ⟨z.free m, hb, hn⟩, .ty n, rfl, fun u e => e⟩, fun q hq => ?_⟩
  have c := List.all_eq_true.mp (z.fx _ m2) q hq
  rw [Bool.and_eq_true] at c
  exact ⟨exc_of c.1, of_decide_eq_true c.2⟩
theorem Zd.xt (z : Zd en fx) {x : Str} {tab : List (Str × Bool)} (m : Fx.glo x ∈ fx) (m2 : Fx.xt x tab ∈ fx) : en.Xt x tab := by
  refine ⟨.ref (He.ga en.K x), ⟨.inl (z.glo m).1, .ref (He.ga en.K x), rfl, fun u e => e⟩, fun q hq => ?_⟩
  exact of_decide_eq_true (List.all_eq_true.mp (z.fx _ m2) q hq)
theorem Zd.rs (z : Zd en fx) {c f : Str} (m : Fx.glo c ∈ fx) (m2 : Fx.rs c f ∈ fx) : en.Rs c [f] := by
  obtain ⟨T, G⟩ := DX.x1_of (z.fx _ m2)
  exact ⟨(z.glo m).1, f, _, rfl, T, G⟩
theorem Zd.rk (z : Zd en fx) {c : Str} (m : Fx.glo c ∈ fx) (m2 : Fx.rk c ∈ fx) : en.Rk c := by
  obtain ⟨h1, h2, h3, h4⟩ := He.exc_ok (z.fx _ m2)
  exact ⟨(z.glo m).1, h2, h1, h3, h4⟩
theorem Zd.blt (z : Zd en fx) (m : (bltNames.all fun x => fx.any fun f => match f with | .free y => decide (y = x) | _ => false) = true) : ∀ x ∈ bltNames, en.mg x = none := by
  intro x hx
  obtain ⟨f, hf, e⟩ := List.any_eq_true.mp (List.all_eq_true.mp m x hx)
  cases f with
  | free y =>
    obtain rfl := of_decide_eq_true e
    exact z.free hf
  | _ => cases e
/-- the script -/
theorem Zd.script (z : Zd en fx) (m : Fx.nolist ∈ fx) {H : Hp} {a : Addr} {ns : List Int} {S : Spc} {Q : VK} {E : XK} (h : SqL en.K H a (ns.map V.int)) (hs : ∀ (Q : QV) (X : QX), Q (.dat (.bl true)) [] → S.run [.dat (.lst (ns.map .int))] [] Q X) (hq : ∀ H', Q (.bl true) H') : lift en.K S [.ref a] H Q E := by
  rcases h with h | ⟨o, its, n, hl, hc, _⟩
  · refine ⟨H, ⟨[], fun _ => none⟩, [], [.dat (.lst (ns.map .int))], ⟨.refl, (fun _ z => z), rfl, List.nodup_nil, (fun _ z => nomatch z), (fun _ _ _ z => nomatch z), (fun _ _ z => nomatch z)⟩, ⟨R.lst h ?_, trivial⟩, hs _ _ ?_⟩
    · clear h hs hq
      induction ns with
      | nil => exact .nil
      | cons i ns ih => exact .cons (.int i) ih
    · intro v F' α' H' _ _ r
      cases r
      exact hq _
  · have := List.all_eq_true.mp (z.fx _ m) _ (He.lookup_mem hl)
    rw [hc] at this
    exact absurd this (by decide)
end
def seenC (g : Addr → Option Obj) (n : Nat) : PySem.W.Frag := He.frT g (cStatics :: He.asD g n)
def obsC (n : Nat) (fn : List He.DefD) (ex : PySem.W.Frag → Bool) (g : Addr → Option Obj) : He.AlD × Bool := (He.obsD [] fn (seenC g n), ex (seenC g n))
def hookC (n : Nat) (fn : List He.DefD) (ex : PySem.W.Frag → Bool) : PySem.W.Hook where
  α := He.AlD × Bool
  obs := fun s => obsC n fn ex s.heap.get?
  val := fun _ => (He.valD fn, true)
  says := fun _ h => ∃ K : PySem.W.Frag, K.In h ∧ He.SaysD [] fn K ∧ ex K = true
  of := fun _ s e => ⟨seenC s.heap.get? n, He.frT_in, congrArg Prod.fst e, congrArg Prod.snd e⟩
  keeps := fun _ _ _ ⟨K, hK, c⟩ k => ⟨K, PySem.W.Frag.In.keeps hK k, c⟩
theorem obsC_eq {n : Nat} {fn : List He.DefD} {ex : PySem.W.Frag → Bool} {g : Addr → Option Obj} {s : Shared} (h : ∀ a, g a = s.heap.get? a) : obsC n fn ex g = (hookC n fn ex).obs s := by
  rw [show g = s.heap.get? from funext h]; rfl
/-- the law's end, from a head whose facts are told by K -/
theorem law_end {l : PySem.W.OpenLaw} {most k : Nat} {view : Program} {free : List Str} {XF : (Str → Option Value) → Heap → Prop} {YF : World → Heap → Prop} {dr : DefRec} {arg : Str}
    (hm : l.most = some most) (hz : most ≤ sizeLine) (hdef : dr.params.defaults = []) (room : Room k callerA)
    (have_ : ∀ (w : World) (mg : Str → Option Value) (la : Addr) (h : Heap), YF w h → h.Ns mainGlobals mg → mg dr.name = some (.ref la) →
      ∃ (K : PySem.W.Frag) (sp : Sp), K.In h ∧ (∀ (H : Hp) (a : Addr) (ns : List Int), SqL K H a (ns.map V.int) → sp [.ref a] H (fun v _ => v = .bl true) fun _ _ _ => False) ∧
        ∃ fd : FuncData, (∀ (s : Shared) (u : Value), BindsTo s fd ⟨[u], []⟩ [(arg, u)]) ∧ ∀ base : Heap, K.In base → base.Ns mainGlobals mg → FnOk l.prog w K mg base (CX l.prog w) k la fd [arg] sp) :
    PySem.W.WalkO view free XF YF l.row.toRowW dr [] (fun f vs => PySem.call f vs) := by
  refine Att.attach_call hm hdef ?_
  intro w s0 s1 mg mb la o pm cd doc a vs ns G Y ho hd hcd hmg hobj hints hlen hg
  obtain ⟨K, sp, KX, hsp, fd, hbd, hF⟩ := have_ w mg la _ Y G.T.g hmg
  refine law_run KX G.T.g G.T.b G.T.builtins G.T.nolimit hg hobj hints (Nat.le_trans hlen hz) room hF hbd (fun H hS => hsp H a ns hS) ?_
  rintro H e s' ⟨_, _, _, _, _, _, _, _, _, _, _, _, q⟩
  exact q
end DL

namespace DL.K28.HK
open PySem PySem.Spec PyProof.Rows L2 DL
abbrev pw : Program := PySem.Challenge.pw_copiesatjoins_k28_sharings_made
def top (i : Nat) : Stmt := pw.main.body.getD i (.Pass ⟨0, 0, 0, 0⟩)
def sub (i j : Nat) : Stmt := match top i with
  | .ClassDef (body := b) .. => b.getD j (.Pass ⟨0, 0, 0, 0⟩)
  | _ => .Pass ⟨0, 0, 0, 0⟩
def dF (x : Str) (i : Nat) : He.DefD := ⟨(x, none), x, x, defArgs (top i), defBody (top i), defScope (top i), [], []⟩
def dM (c m q : Str) (i j : Nat) : He.DefD := ⟨(c, some m), m, q, defArgs (sub i j), defBody (sub i j), defScope (sub i j), [], []⟩
def fn : List He.DefD := [dF "is_name" 7, dF "each_once" 8, dF "is_class" 10, dM "Sharing" "__init__" "Sharing.__init__" 11 0, dM "Sharing" "__call__" "Sharing.__call__" 11 1, dM "Sharing" "classes" "Sharing.classes" 11 2, dM "Sharing" "__contains__" "Sharing.__contains__" 11 3, dM "Sharing" "__eq__" "Sharing.__eq__" 11 4, dM "Sharing" "__le__" "Sharing.__le__" 11 5, dF "_law_begin" 13, dF "_law_draw" 14, dF "_law_pick" 15, dF "_law_mixed" 16, dF "_law_stem" 17, dF "_law_names" 18, dF "_law_new" 19, dF "_law_refused" 20, dF "_law_called" 21, dF "_law_classes" 22, dF "_law_place" 23, dF "_law_finer" 24, dF "law" 25]
def fx : List Fx := [.free "len", .free "all", .free "any", .free "int", .free "list", .free "tuple", .free "str", .free "sorted", .free "repr", .free "sum", .free "set", .free "isinstance", .free "range", .free "enumerate", .free "zip", .free "bool", .free "dict", .free "min", .free "max", .free "super", .nolist, .glo "law", .gs "LETTERS" "abcdefghijklmnopqrstuvwxyz", .gi "MOST_LETTERS" 6, .glo "is_name", .cls "Sharing", .fl "Sharing" "kept_classes", .glo "each_once", .glo "is_class", .glo "BadSharing", .rs "BadSharing" "at", .glo "NoName", .rs "NoName" "name", .isc "Sharing", .glo "Sharing", .glo "_law_draw", .glo "_law_pick", .glo "_law_mixed", .glo "_law_stem", .mk "Sharing", .glo "_law_new", .xt "BadSharing" tab_xBadSharing, .xi "NoName" tab_NoName, .glo "JoinError", .xi "JoinError" tab_JoinError, .xf "at" cs_BadSharing, .co "Sharing", .xt "NoName" tab_xNoName, .xf "name" cs_NoName, .glo "_law_place", .glo "_law_begin", .glo "_law_names", .glo "_law_classes", .meth "Sharing" "classes", .meth "Sharing" "__contains__", .ow .inn "Sharing", .meth "Sharing" "__le__", .ow .le "Sharing", .glo "_law_finer", .meth "Sharing" "__eq__", .ow .ne "Sharing", .ow .eqd "Sharing", .ow .eq "Sharing", .glo "_law_called", .glo "_law_refused"]
abbrev R : PySem.W.OpenRow := PySem.W.OpenLaw.row PySem.Challenge.rw_copiesatjoins_k28_sharings_made
abbrev hk : PySem.W.Hook := hookC 6 fn (fun K => fx.all fun f => f.ok pw K)
def ob (s : PySem.W.SharedT) : He.AlD × Bool := obsC 6 fn (fun K => fx.all fun f => f.ok pw K) (HandSHeadRun.getT s)
theorem ob_eq (s : PySem.W.SharedT) : ob s = hk.obs s.abs := obsC_eq (HandSHeadRun.getT_eq s)
def names : List Str := ["JoinError", "NoName", "BadSharing", "LETTERS", "MOST_LETTERS", "is_name", "each_once", "is_class", "Sharing", "_law_begin", "_law_draw", "_law_pick", "_law_mixed", "_law_stem", "_law_names", "_law_new", "_law_refused", "_law_called", "_law_classes", "_law_place", "_law_finer"]
theorem run (w : World) : HandSHeadRun.RunEq R (PySem.W.view R.prog [25]) hk ob 4000 names w := by
  intro os
  kernel_rfl
theorem mem {f : Fx} (i : Nat) (h : fx[i]? = some f) : f ∈ fx := List.mem_of_getElem? h
section
variable {w : World} {K : PySem.W.Frag} {mg : Str → Option Value} {base : Heap}
abbrev en (w : World) (K : PySem.W.Frag) (mg : Str → Option Value) (base : Heap) (k : Nat) : En := ⟨pw, w, K, mg, base, k⟩
structure Zz (w : World) (K : PySem.W.Frag) (mg : Str → Option Value) (base : Heap) : Prop where
  z : Zd (en w K mg base 0) fx
  d : He.SaysD [] fn K
def M_is_name : List Str := ["thing", "letter"]
theorem s_is_name : FnScope M_is_name ["thing"] (defScope (top 7)) := ⟨rfl, rfl, rfl, by decide +kernel, rfl, by decide +kernel, by decide +kernel⟩
theorem p_is_name : parB ["thing"] none (defArgs (top 7)) = true := by decide +kernel
theorem k_is_name : chkL A_is_name ⟨M_is_name, defScope (top 7), true, none, true⟩ (defBody (top 7)) = true := by decide +kernel
theorem f_is_name (z : Zz w K mg base) : DL.FnR pw w K mg base (CX pw w) 1 (He.ga K "is_name") (lift K S_is_name) := by
  obtain ⟨fd, F⟩ := z.d.defs (d := dF "is_name" 7) (List.mem_of_getElem? (i := 0) rfl)
  have zz : Zd (en w K mg base 0) fx := z.z.at 0
  have a0 : (en w K mg base 0).Gv "LETTERS" (.str "abcdefghijklmnopqrstuvwxyz") := zz.gs (mem 22 rfl)
  have a1 : (en w K mg base 0).Gv "MOST_LETTERS" (.int 6) := zz.gi (mem 23 rfl)
  exact def_ok' (en := en w K mg base 0) false F p_is_name s_is_name (zz.blt (by decide +kernel)) (fun rs μ Q X h => by first | (obtain ⟨rfl, _⟩ := h; rfl) | (obtain ⟨_, rfl, _⟩ := h; rfl) | (obtain ⟨_, _, rfl, _⟩ := h; rfl) | (obtain ⟨_, _, _, rfl, _⟩ := h; rfl) | (obtain ⟨_, _, _, _, rfl, _⟩ := h; rfl) | (obtain ⟨_, _, _, _, _, rfl, _⟩ := h; rfl) | (obtain ⟨_, _, _, _, _, _, rfl, _⟩ := h; rfl) | (obtain ⟨rfl | rfl, _⟩ := h <;> rfl)) k_is_name (by simp only [A_is_name, GdS, GdE, GdA, GdT, GdI, GdO, true_and, and_true, and_self]; repeat' (first | assumption | exact True.intro | apply And.intro)) w_is_name
def M_each_once : List Str := ["names"]
theorem s_each_once : FnScope M_each_once ["names"] (defScope (top 8)) := ⟨rfl, rfl, rfl, by decide +kernel, rfl, by decide +kernel, by decide +kernel⟩
theorem p_each_once : parB ["names"] none (defArgs (top 8)) = true := by decide +kernel
theorem k_each_once : chkL A_each_once ⟨M_each_once, defScope (top 8), true, none, true⟩ (defBody (top 8)) = true := by decide +kernel
theorem f_each_once (z : Zz w K mg base) : DL.FnR pw w K mg base (CX pw w) 1 (He.ga K "each_once") (lift K S_each_once) := by
  obtain ⟨fd, F⟩ := z.d.defs (d := dF "each_once" 8) (List.mem_of_getElem? (i := 1) rfl)
  have zz : Zd (en w K mg base 0) fx := z.z.at 0
  exact def_ok' (en := en w K mg base 0) false F p_each_once s_each_once (zz.blt (by decide +kernel)) (fun rs μ Q X h => by first | (obtain ⟨rfl, _⟩ := h; rfl) | (obtain ⟨_, rfl, _⟩ := h; rfl) | (obtain ⟨_, _, rfl, _⟩ := h; rfl) | (obtain ⟨_, _, _, rfl, _⟩ := h; rfl) | (obtain ⟨_, _, _, _, rfl, _⟩ := h; rfl) | (obtain ⟨_, _, _, _, _, rfl, _⟩ := h; rfl) | (obtain ⟨_, _, _, _, _, _, rfl, _⟩ := h; rfl) | (obtain ⟨rfl | rfl, _⟩ := h <;> rfl)) k_each_once (by simp only [A_each_once, GdS, GdE, GdA, GdT, GdI, GdO, true_and, and_true, and_self]; repeat' (first | assumption | exact True.intro | apply And.intro)) w_each_once
def M_is_class : List Str := ["thing", "earlier", "name"]
theorem s_is_class : FnScope M_is_class ["thing", "earlier"] (defScope (top 10)) := ⟨rfl, rfl, rfl, by decide +kernel, rfl, by decide +kernel, by decide +kernel⟩
theorem p_is_class : parB ["thing", "earlier"] none (defArgs (top 10)) = true := by decide +kernel
theorem k_is_class : chkL A_is_class ⟨M_is_class, defScope (top 10), true, none, true⟩ (defBody (top 10)) = true := by decide +kernel
theorem f_is_class (z : Zz w K mg base) : DL.FnR pw w K mg base (CX pw w) 2 (He.ga K "is_class") (lift K S_is_class) := by
  obtain ⟨fd, F⟩ := z.d.defs (d := dF "is_class" 10) (List.mem_of_getElem? (i := 2) rfl)
  have zz : Zd (en w K mg base 1) fx := z.z.at 1
  have a0 : (en w K mg base 1).Fn "is_name" S_is_name := zz.fn (mem 24 rfl) (f_is_name z) (Nat.le_of_ble_eq_true rfl)
  exact def_ok' (en := en w K mg base 1) false F p_is_class s_is_class (zz.blt (by decide +kernel)) (fun rs μ Q X h => by first | (obtain ⟨rfl, _⟩ := h; rfl) | (obtain ⟨_, rfl, _⟩ := h; rfl) | (obtain ⟨_, _, rfl, _⟩ := h; rfl) | (obtain ⟨_, _, _, rfl, _⟩ := h; rfl) | (obtain ⟨_, _, _, _, rfl, _⟩ := h; rfl) | (obtain ⟨_, _, _, _, _, rfl, _⟩ := h; rfl) | (obtain ⟨_, _, _, _, _, _, rfl, _⟩ := h; rfl) | (obtain ⟨rfl | rfl, _⟩ := h <;> rfl)) k_is_class (by simp only [A_is_class, GdS, GdE, GdA, GdT, GdI, GdO, true_and, and_true, and_self]; repeat' (first | assumption | exact True.intro | apply And.intro)) w_is_class
def M_Sharing_init : List Str := ["self", "classes", "earlier", "at", "names"]
theorem s_Sharing_init : FnScope M_Sharing_init ["self", "classes"] (defScope (sub 11 0)) := ⟨rfl, rfl, rfl, by decide +kernel, rfl, by decide +kernel, by decide +kernel⟩
theorem p_Sharing_init : parB ["self"] (some "classes") (defArgs (sub 11 0)) = true := by decide +kernel
theorem k_Sharing_init : chkL A_Sharing_init ⟨M_Sharing_init, defScope (sub 11 0), true, none, true⟩ (defBody (sub 11 0)) = true := by decide +kernel
theorem f_Sharing_init (z : Zz w K mg base) : DL.FnR pw w K mg base (CX pw w) 3 (He.ma K (He.ga K "Sharing") "__init__") (lift K S_Sharing_init) := by
  obtain ⟨fd, F⟩ := z.d.defs (d := dM "Sharing" "__init__" "Sharing.__init__" 11 0) (List.mem_of_getElem? (i := 3) rfl)
  have zz : Zd (en w K mg base 2) fx := z.z.at 2
  have a0 : (en w K mg base 2).Fl "Sharing" "kept_classes" := zz.fl (mem 25 rfl) (mem 26 rfl)
  have a1 : (en w K mg base 2).Fn "each_once" S_each_once := zz.fn (mem 27 rfl) (f_each_once z) (Nat.le_of_ble_eq_true rfl)
  have a2 : (en w K mg base 2).Fn "is_class" S_is_class := zz.fn (mem 28 rfl) (f_is_class z) (Nat.le_of_ble_eq_true rfl)
  have a3 : (en w K mg base 2).Rs "BadSharing" ["at"] := zz.rs (mem 29 rfl) (mem 30 rfl)
  exact def_star (en := en w K mg base 2) false F p_Sharing_init s_Sharing_init (zz.blt (by decide +kernel)) k_Sharing_init (by simp only [A_Sharing_init, B_Sharing_init_0, GdS, GdE, GdA, GdT, GdI, GdO, true_and, and_true, and_self]; repeat' (first | assumption | exact True.intro | apply And.intro)) w_Sharing_init
def M_Sharing_call : List Str := ["self", "name", "names"]
theorem s_Sharing_call : FnScope M_Sharing_call ["self", "name"] (defScope (sub 11 1)) := ⟨rfl, rfl, rfl, by decide +kernel, rfl, by decide +kernel, by decide +kernel⟩
theorem p_Sharing_call : parB ["self", "name"] none (defArgs (sub 11 1)) = true := by decide +kernel
theorem k_Sharing_call : chkL A_Sharing_call ⟨M_Sharing_call, defScope (sub 11 1), true, none, true⟩ (defBody (sub 11 1)) = true := by decide +kernel
theorem f_Sharing_call (z : Zz w K mg base) : DL.FnR pw w K mg base (CX pw w) 2 (He.ma K (He.ga K "Sharing") "__call__") (lift K S_Sharing_call) := by
  obtain ⟨fd, F⟩ := z.d.defs (d := dM "Sharing" "__call__" "Sharing.__call__" 11 1) (List.mem_of_getElem? (i := 4) rfl)
  have zz : Zd (en w K mg base 1) fx := z.z.at 1
  have a0 : (en w K mg base 1).Fl "Sharing" "kept_classes" := zz.fl (mem 25 rfl) (mem 26 rfl)
  have a1 : (en w K mg base 1).Fn "is_name" S_is_name := zz.fn (mem 24 rfl) (f_is_name z) (Nat.le_of_ble_eq_true rfl)
  have a2 : (en w K mg base 1).Rs "NoName" ["name"] := zz.rs (mem 31 rfl) (mem 32 rfl)
  exact def_ok' (en := en w K mg base 1) false F p_Sharing_call s_Sharing_call (zz.blt (by decide +kernel)) (fun rs μ Q X h => by first | (obtain ⟨rfl, _⟩ := h; rfl) | (obtain ⟨_, rfl, _⟩ := h; rfl) | (obtain ⟨_, _, rfl, _⟩ := h; rfl) | (obtain ⟨_, _, _, rfl, _⟩ := h; rfl) | (obtain ⟨_, _, _, _, rfl, _⟩ := h; rfl) | (obtain ⟨_, _, _, _, _, rfl, _⟩ := h; rfl) | (obtain ⟨_, _, _, _, _, _, rfl, _⟩ := h; rfl) | (obtain ⟨rfl | rfl, _⟩ := h <;> rfl)) k_Sharing_call (by simp only [A_Sharing_call, B_Sharing_call_0, GdS, GdE, GdA, GdT, GdI, GdO, true_and, and_true, and_self]; repeat' (first | assumption | exact True.intro | apply And.intro)) w_Sharing_call
def M_Sharing_classes : List Str := ["self"]
theorem s_Sharing_classes : FnScope M_Sharing_classes ["self"] (defScope (sub 11 2)) := ⟨rfl, rfl, rfl, by decide +kernel, rfl, by decide +kernel, by decide +kernel⟩
theorem p_Sharing_classes : parB ["self"] none (defArgs (sub 11 2)) = true := by decide +kernel
theorem k_Sharing_classes : chkL A_Sharing_classes ⟨M_Sharing_classes, defScope (sub 11 2), true, none, true⟩ (defBody (sub 11 2)) = true := by decide +kernel
theorem f_Sharing_classes (z : Zz w K mg base) : DL.FnR pw w K mg base (CX pw w) 1 (He.ma K (He.ga K "Sharing") "classes") (lift K S_Sharing_classes) := by
  obtain ⟨fd, F⟩ := z.d.defs (d := dM "Sharing" "classes" "Sharing.classes" 11 2) (List.mem_of_getElem? (i := 5) rfl)
  have zz : Zd (en w K mg base 0) fx := z.z.at 0
  have a0 : (en w K mg base 0).Fl "Sharing" "kept_classes" := zz.fl (mem 25 rfl) (mem 26 rfl)
  exact def_ok' (en := en w K mg base 0) false F p_Sharing_classes s_Sharing_classes (zz.blt (by decide +kernel)) (fun rs μ Q X h => by first | (obtain ⟨rfl, _⟩ := h; rfl) | (obtain ⟨_, rfl, _⟩ := h; rfl) | (obtain ⟨_, _, rfl, _⟩ := h; rfl) | (obtain ⟨_, _, _, rfl, _⟩ := h; rfl) | (obtain ⟨_, _, _, _, rfl, _⟩ := h; rfl) | (obtain ⟨_, _, _, _, _, rfl, _⟩ := h; rfl) | (obtain ⟨_, _, _, _, _, _, rfl, _⟩ := h; rfl) | (obtain ⟨rfl | rfl, _⟩ := h <;> rfl)) k_Sharing_classes (by simp only [A_Sharing_classes, GdS, GdE, GdA, GdT, GdI, GdO, true_and, and_true, and_self]; repeat' (first | assumption | exact True.intro | apply And.intro)) w_Sharing_classes
def M_Sharing_contains : List Str := ["self", "name", "names"]
theorem s_Sharing_contains : FnScope M_Sharing_contains ["self", "name"] (defScope (sub 11 3)) := ⟨rfl, rfl, rfl, by decide +kernel, rfl, by decide +kernel, by decide +kernel⟩
theorem p_Sharing_contains : parB ["self", "name"] none (defArgs (sub 11 3)) = true := by decide +kernel
theorem k_Sharing_contains : chkL A_Sharing_contains ⟨M_Sharing_contains, defScope (sub 11 3), true, none, true⟩ (defBody (sub 11 3)) = true := by decide +kernel
theorem f_Sharing_contains (z : Zz w K mg base) : DL.FnR pw w K mg base (CX pw w) 1 (He.ma K (He.ga K "Sharing") "__contains__") (lift K S_Sharing_contains) := by
  obtain ⟨fd, F⟩ := z.d.defs (d := dM "Sharing" "__contains__" "Sharing.__contains__" 11 3) (List.mem_of_getElem? (i := 6) rfl)
  have zz : Zd (en w K mg base 0) fx := z.z.at 0
  have a0 : (en w K mg base 0).Fl "Sharing" "kept_classes" := zz.fl (mem 25 rfl) (mem 26 rfl)
  exact def_ok' (en := en w K mg base 0) false F p_Sharing_contains s_Sharing_contains (zz.blt (by decide +kernel)) (fun rs μ Q X h => by first | (obtain ⟨rfl, _⟩ := h; rfl) | (obtain ⟨_, rfl, _⟩ := h; rfl) | (obtain ⟨_, _, rfl, _⟩ := h; rfl) | (obtain ⟨_, _, _, rfl, _⟩ := h; rfl) | (obtain ⟨_, _, _, _, rfl, _⟩ := h; rfl) | (obtain ⟨_, _, _, _, _, rfl, _⟩ := h; rfl) | (obtain ⟨_, _, _, _, _, _, rfl, _⟩ := h; rfl) | (obtain ⟨rfl | rfl, _⟩ := h <;> rfl)) k_Sharing_contains (by simp only [A_Sharing_contains, GdS, GdE, GdA, GdT, GdI, GdO, true_and, and_true, and_self]; repeat' (first | assumption | exact True.intro | apply And.intro)) w_Sharing_contains
def M_Sharing_eq : List Str := ["self", "other"]
theorem s_Sharing_eq : FnScope M_Sharing_eq ["self", "other"] (defScope (sub 11 4)) := ⟨rfl, rfl, rfl, by decide +kernel, rfl, by decide +kernel, by decide +kernel⟩
theorem p_Sharing_eq : parB ["self", "other"] none (defArgs (sub 11 4)) = true := by decide +kernel
theorem k_Sharing_eq : chkL A_Sharing_eq ⟨M_Sharing_eq, defScope (sub 11 4), true, none, true⟩ (defBody (sub 11 4)) = true := by decide +kernel
theorem f_Sharing_eq (z : Zz w K mg base) : DL.FnR pw w K mg base (CX pw w) 1 (He.ma K (He.ga K "Sharing") "__eq__") (lift K S_Sharing_eq) := by
  obtain ⟨fd, F⟩ := z.d.defs (d := dM "Sharing" "__eq__" "Sharing.__eq__" 11 4) (List.mem_of_getElem? (i := 7) rfl)
  have zz : Zd (en w K mg base 0) fx := z.z.at 0
  have a0 : (en w K mg base 0).Fl "Sharing" "kept_classes" := zz.fl (mem 25 rfl) (mem 26 rfl)
  have a1 : (en w K mg base 0).Is "Sharing" := zz.is (mem 25 rfl) (mem 33 rfl) (mem 34 rfl)
  exact def_ok' (en := en w K mg base 0) false F p_Sharing_eq s_Sharing_eq (zz.blt (by decide +kernel)) (fun rs μ Q X h => by first | (obtain ⟨rfl, _⟩ := h; rfl) | (obtain ⟨_, rfl, _⟩ := h; rfl) | (obtain ⟨_, _, rfl, _⟩ := h; rfl) | (obtain ⟨_, _, _, rfl, _⟩ := h; rfl) | (obtain ⟨_, _, _, _, rfl, _⟩ := h; rfl) | (obtain ⟨_, _, _, _, _, rfl, _⟩ := h; rfl) | (obtain ⟨_, _, _, _, _, _, rfl, _⟩ := h; rfl) | (obtain ⟨rfl | rfl, _⟩ := h <;> rfl)) k_Sharing_eq (by simp only [A_Sharing_eq, GdS, GdE, GdA, GdT, GdI, GdO, true_and, and_true, and_self]; repeat' (first | assumption | exact True.intro | apply And.intro)) w_Sharing_eq
def M_Sharing_le : List Str := ["self", "other", "wide", "name", "names", "own"]
theorem s_Sharing_le : FnScope M_Sharing_le ["self", "other"] (defScope (sub 11 5)) := ⟨rfl, rfl, rfl, by decide +kernel, rfl, by decide +kernel, by decide +kernel⟩
theorem p_Sharing_le : parB ["self", "other"] none (defArgs (sub 11 5)) = true := by decide +kernel
theorem k_Sharing_le : chkL A_Sharing_le ⟨M_Sharing_le, defScope (sub 11 5), true, none, true⟩ (defBody (sub 11 5)) = true := by decide +kernel
theorem f_Sharing_le (z : Zz w K mg base) : DL.FnR pw w K mg base (CX pw w) 1 (He.ma K (He.ga K "Sharing") "__le__") (lift K S_Sharing_le) := by
  obtain ⟨fd, F⟩ := z.d.defs (d := dM "Sharing" "__le__" "Sharing.__le__" 11 5) (List.mem_of_getElem? (i := 8) rfl)
  have zz : Zd (en w K mg base 0) fx := z.z.at 0
  have a0 : (en w K mg base 0).Fl "Sharing" "kept_classes" := zz.fl (mem 25 rfl) (mem 26 rfl)
  have a1 : (en w K mg base 0).Is "Sharing" := zz.is (mem 25 rfl) (mem 33 rfl) (mem 34 rfl)
  exact def_ok' (en := en w K mg base 0) false F p_Sharing_le s_Sharing_le (zz.blt (by decide +kernel)) (fun rs μ Q X h => by first | (obtain ⟨rfl, _⟩ := h; rfl) | (obtain ⟨_, rfl, _⟩ := h; rfl) | (obtain ⟨_, _, rfl, _⟩ := h; rfl) | (obtain ⟨_, _, _, rfl, _⟩ := h; rfl) | (obtain ⟨_, _, _, _, rfl, _⟩ := h; rfl) | (obtain ⟨_, _, _, _, _, rfl, _⟩ := h; rfl) | (obtain ⟨_, _, _, _, _, _, rfl, _⟩ := h; rfl) | (obtain ⟨rfl | rfl, _⟩ := h <;> rfl)) k_Sharing_le (by simp only [A_Sharing_le, GdS, GdE, GdA, GdT, GdI, GdO, true_and, and_true, and_self]; repeat' (first | assumption | exact True.intro | apply And.intro)) w_Sharing_le
def M_law_begin : List Str := ["_law_script"]
theorem s_law_begin : FnScope M_law_begin ["_law_script"] (defScope (top 13)) := ⟨rfl, rfl, rfl, by decide +kernel, rfl, by decide +kernel, by decide +kernel⟩
theorem p_law_begin : parB ["_law_script"] none (defArgs (top 13)) = true := by decide +kernel
theorem k_law_begin : chkL A_law_begin ⟨M_law_begin, defScope (top 13), true, none, true⟩ (defBody (top 13)) = true := by decide +kernel
theorem f_law_begin (z : Zz w K mg base) : DL.FnR pw w K mg base (CX pw w) 1 (He.ga K "_law_begin") (lift K S_law_begin) := by
  obtain ⟨fd, F⟩ := z.d.defs (d := dF "_law_begin" 13) (List.mem_of_getElem? (i := 9) rfl)
  have zz : Zd (en w K mg base 0) fx := z.z.at 0
  exact def_ok' (en := en w K mg base 0) true F p_law_begin s_law_begin (zz.blt (by decide +kernel)) (fun rs μ Q X h => by first | (obtain ⟨rfl, _⟩ := h; rfl) | (obtain ⟨_, rfl, _⟩ := h; rfl) | (obtain ⟨_, _, rfl, _⟩ := h; rfl) | (obtain ⟨_, _, _, rfl, _⟩ := h; rfl) | (obtain ⟨_, _, _, _, rfl, _⟩ := h; rfl) | (obtain ⟨_, _, _, _, _, rfl, _⟩ := h; rfl) | (obtain ⟨_, _, _, _, _, _, rfl, _⟩ := h; rfl) | (obtain ⟨rfl | rfl, _⟩ := h <;> rfl)) k_law_begin (by simp only [A_law_begin, GdS, GdE, GdA, GdT, GdI, GdO, true_and, and_true, and_self]; repeat' (first | assumption | exact True.intro | apply And.intro)) w_law_begin
def M_law_draw : List Str := ["_law_source", "_law_limit", "_law_cell", "_law_digit"]
theorem s_law_draw : FnScope M_law_draw ["_law_source", "_law_limit"] (defScope (top 14)) := ⟨rfl, rfl, rfl, by decide +kernel, rfl, by decide +kernel, by decide +kernel⟩
theorem p_law_draw : parB ["_law_source", "_law_limit"] none (defArgs (top 14)) = true := by decide +kernel
theorem k_law_draw : chkL A_law_draw ⟨M_law_draw, defScope (top 14), true, none, true⟩ (defBody (top 14)) = true := by decide +kernel
theorem f_law_draw (z : Zz w K mg base) : DL.FnR pw w K mg base (CX pw w) 1 (He.ga K "_law_draw") (lift K S_law_draw) := by
  obtain ⟨fd, F⟩ := z.d.defs (d := dF "_law_draw" 14) (List.mem_of_getElem? (i := 10) rfl)
  have zz : Zd (en w K mg base 0) fx := z.z.at 0
  exact def_ok' (en := en w K mg base 0) false F p_law_draw s_law_draw (zz.blt (by decide +kernel)) (fun rs μ Q X h => by first | (obtain ⟨rfl, _⟩ := h; rfl) | (obtain ⟨_, rfl, _⟩ := h; rfl) | (obtain ⟨_, _, rfl, _⟩ := h; rfl) | (obtain ⟨_, _, _, rfl, _⟩ := h; rfl) | (obtain ⟨_, _, _, _, rfl, _⟩ := h; rfl) | (obtain ⟨_, _, _, _, _, rfl, _⟩ := h; rfl) | (obtain ⟨_, _, _, _, _, _, rfl, _⟩ := h; rfl) | (obtain ⟨rfl | rfl, _⟩ := h <;> rfl)) k_law_draw (by simp only [A_law_draw, GdS, GdE, GdA, GdT, GdI, GdO, true_and, and_true, and_self]; repeat' (first | assumption | exact True.intro | apply And.intro)) w_law_draw
def M_law_pick : List Str := ["_law_source", "_law_items"]
theorem s_law_pick : FnScope M_law_pick ["_law_source", "_law_items"] (defScope (top 15)) := ⟨rfl, rfl, rfl, by decide +kernel, rfl, by decide +kernel, by decide +kernel⟩
theorem p_law_pick : parB ["_law_source", "_law_items"] none (defArgs (top 15)) = true := by decide +kernel
theorem k_law_pick : chkL A_law_pick ⟨M_law_pick, defScope (top 15), true, none, true⟩ (defBody (top 15)) = true := by decide +kernel
theorem f_law_pick (z : Zz w K mg base) : DL.FnR pw w K mg base (CX pw w) 2 (He.ga K "_law_pick") (lift K S_law_pick) := by
  obtain ⟨fd, F⟩ := z.d.defs (d := dF "_law_pick" 15) (List.mem_of_getElem? (i := 11) rfl)
  have zz : Zd (en w K mg base 1) fx := z.z.at 1
  have a0 : (en w K mg base 1).Fn "_law_draw" S_law_draw := zz.fn (mem 35 rfl) (f_law_draw z) (Nat.le_of_ble_eq_true rfl)
  exact def_ok' (en := en w K mg base 1) false F p_law_pick s_law_pick (zz.blt (by decide +kernel)) (fun rs μ Q X h => by first | (obtain ⟨rfl, _⟩ := h; rfl) | (obtain ⟨_, rfl, _⟩ := h; rfl) | (obtain ⟨_, _, rfl, _⟩ := h; rfl) | (obtain ⟨_, _, _, rfl, _⟩ := h; rfl) | (obtain ⟨_, _, _, _, rfl, _⟩ := h; rfl) | (obtain ⟨_, _, _, _, _, rfl, _⟩ := h; rfl) | (obtain ⟨_, _, _, _, _, _, rfl, _⟩ := h; rfl) | (obtain ⟨rfl | rfl, _⟩ := h <;> rfl)) k_law_pick (by simp only [A_law_pick, GdS, GdE, GdA, GdT, GdI, GdO, true_and, and_true, and_self]; repeat' (first | assumption | exact True.intro | apply And.intro)) w_law_pick
def M_law_mixed : List Str := ["_law_source", "_law_items", "_law_left", "_law_found"]
theorem s_law_mixed : FnScope M_law_mixed ["_law_source", "_law_items"] (defScope (top 16)) := ⟨rfl, rfl, rfl, by decide +kernel, rfl, by decide +kernel, by decide +kernel⟩
theorem p_law_mixed : parB ["_law_source", "_law_items"] none (defArgs (top 16)) = true := by decide +kernel
theorem k_law_mixed : chkL A_law_mixed ⟨M_law_mixed, defScope (top 16), true, none, true⟩ (defBody (top 16)) = true := by decide +kernel
theorem f_law_mixed (z : Zz w K mg base) : DL.FnR pw w K mg base (CX pw w) 2 (He.ga K "_law_mixed") (lift K S_law_mixed) := by
  obtain ⟨fd, F⟩ := z.d.defs (d := dF "_law_mixed" 16) (List.mem_of_getElem? (i := 12) rfl)
  have zz : Zd (en w K mg base 1) fx := z.z.at 1
  have a0 : (en w K mg base 1).Fn "_law_draw" S_law_draw := zz.fn (mem 35 rfl) (f_law_draw z) (Nat.le_of_ble_eq_true rfl)
  exact def_ok' (en := en w K mg base 1) false F p_law_mixed s_law_mixed (zz.blt (by decide +kernel)) (fun rs μ Q X h => by first | (obtain ⟨rfl, _⟩ := h; rfl) | (obtain ⟨_, rfl, _⟩ := h; rfl) | (obtain ⟨_, _, rfl, _⟩ := h; rfl) | (obtain ⟨_, _, _, rfl, _⟩ := h; rfl) | (obtain ⟨_, _, _, _, rfl, _⟩ := h; rfl) | (obtain ⟨_, _, _, _, _, rfl, _⟩ := h; rfl) | (obtain ⟨_, _, _, _, _, _, rfl, _⟩ := h; rfl) | (obtain ⟨rfl | rfl, _⟩ := h <;> rfl)) k_law_mixed (by simp only [A_law_mixed, B_law_mixed_0, GdS, GdE, GdA, GdT, GdI, GdO, true_and, and_true, and_self]; repeat' (first | assumption | exact True.intro | apply And.intro)) w_law_mixed
def M_law_stem : List Str := ["_law_source", "_law_letters"]
theorem s_law_stem : FnScope M_law_stem ["_law_source"] (defScope (top 17)) := ⟨rfl, rfl, rfl, by decide +kernel, rfl, by decide +kernel, by decide +kernel⟩
theorem p_law_stem : parB ["_law_source"] none (defArgs (top 17)) = true := by decide +kernel
theorem k_law_stem : chkL A_law_stem ⟨M_law_stem, defScope (top 17), true, none, true⟩ (defBody (top 17)) = true := by decide +kernel
theorem f_law_stem (z : Zz w K mg base) : DL.FnR pw w K mg base (CX pw w) 3 (He.ga K "_law_stem") (lift K S_law_stem) := by
  obtain ⟨fd, F⟩ := z.d.defs (d := dF "_law_stem" 17) (List.mem_of_getElem? (i := 13) rfl)
  have zz : Zd (en w K mg base 2) fx := z.z.at 2
  have a0 : (en w K mg base 2).Fn "_law_pick" S_law_pick := zz.fn (mem 36 rfl) (f_law_pick z) (Nat.le_of_ble_eq_true rfl)
  have a1 : (en w K mg base 2).Fn "_law_draw" S_law_draw := zz.fn (mem 35 rfl) (f_law_draw z) (Nat.le_of_ble_eq_true rfl)
  exact def_ok' (en := en w K mg base 2) false F p_law_stem s_law_stem (zz.blt (by decide +kernel)) (fun rs μ Q X h => by first | (obtain ⟨rfl, _⟩ := h; rfl) | (obtain ⟨_, rfl, _⟩ := h; rfl) | (obtain ⟨_, _, rfl, _⟩ := h; rfl) | (obtain ⟨_, _, _, rfl, _⟩ := h; rfl) | (obtain ⟨_, _, _, _, rfl, _⟩ := h; rfl) | (obtain ⟨_, _, _, _, _, rfl, _⟩ := h; rfl) | (obtain ⟨_, _, _, _, _, _, rfl, _⟩ := h; rfl) | (obtain ⟨rfl | rfl, _⟩ := h <;> rfl)) k_law_stem (by simp only [A_law_stem, GdS, GdE, GdA, GdT, GdI, GdO, true_and, and_true, and_self]; repeat' (first | assumption | exact True.intro | apply And.intro)) w_law_stem
def M_law_names : List Str := ["_law_source", "_law_many", "_law_stem_here", "_law_letters", "_law_letter"]
theorem s_law_names : FnScope M_law_names ["_law_source", "_law_many"] (defScope (top 18)) := ⟨rfl, rfl, rfl, by decide +kernel, rfl, by decide +kernel, by decide +kernel⟩
theorem p_law_names : parB ["_law_source", "_law_many"] none (defArgs (top 18)) = true := by decide +kernel
theorem k_law_names : chkL A_law_names ⟨M_law_names, defScope (top 18), true, none, true⟩ (defBody (top 18)) = true := by decide +kernel
theorem f_law_names (z : Zz w K mg base) : DL.FnR pw w K mg base (CX pw w) 4 (He.ga K "_law_names") (lift K S_law_names) := by
  obtain ⟨fd, F⟩ := z.d.defs (d := dF "_law_names" 18) (List.mem_of_getElem? (i := 14) rfl)
  have zz : Zd (en w K mg base 3) fx := z.z.at 3
  have a0 : (en w K mg base 3).Fn "_law_mixed" S_law_mixed := zz.fn (mem 37 rfl) (f_law_mixed z) (Nat.le_of_ble_eq_true rfl)
  have a1 : (en w K mg base 3).Fn "_law_stem" S_law_stem := zz.fn (mem 38 rfl) (f_law_stem z) (Nat.le_of_ble_eq_true rfl)
  exact def_ok' (en := en w K mg base 3) false F p_law_names s_law_names (zz.blt (by decide +kernel)) (fun rs μ Q X h => by first | (obtain ⟨rfl, _⟩ := h; rfl) | (obtain ⟨_, rfl, _⟩ := h; rfl) | (obtain ⟨_, _, rfl, _⟩ := h; rfl) | (obtain ⟨_, _, _, rfl, _⟩ := h; rfl) | (obtain ⟨_, _, _, _, rfl, _⟩ := h; rfl) | (obtain ⟨_, _, _, _, _, rfl, _⟩ := h; rfl) | (obtain ⟨_, _, _, _, _, _, rfl, _⟩ := h; rfl) | (obtain ⟨rfl | rfl, _⟩ := h <;> rfl)) k_law_names (by simp only [A_law_names, GdS, GdE, GdA, GdT, GdI, GdO, true_and, and_true, and_self]; repeat' (first | assumption | exact True.intro | apply And.intro)) w_law_names
def M_law_new : List Str := ["_law_some"]
theorem s_law_new : FnScope M_law_new ["_law_some"] (defScope (top 19)) := ⟨rfl, rfl, rfl, by decide +kernel, rfl, by decide +kernel, by decide +kernel⟩
theorem p_law_new : parB ["_law_some"] none (defArgs (top 19)) = true := by decide +kernel
theorem k_law_new : chkL A_law_new ⟨M_law_new, defScope (top 19), true, none, true⟩ (defBody (top 19)) = true := by decide +kernel
theorem f_law_new (z : Zz w K mg base) : DL.FnR pw w K mg base (CX pw w) 5 (He.ga K "_law_new") (lift K S_law_new) := by
  obtain ⟨fd, F⟩ := z.d.defs (d := dF "_law_new" 19) (List.mem_of_getElem? (i := 15) rfl)
  have zz : Zd (en w K mg base 4) fx := z.z.at 4
  have a0 : (en w K mg base 4).Fn "Sharing" S_Sharing := zz.cm false (mem 34 rfl) (mem 39 rfl) (f_Sharing_init z) (Nat.le_of_ble_eq_true rfl)
  exact def_ok' (en := en w K mg base 4) false F p_law_new s_law_new (zz.blt (by decide +kernel)) (fun rs μ Q X h => by first | (obtain ⟨rfl, _⟩ := h; rfl) | (obtain ⟨_, rfl, _⟩ := h; rfl) | (obtain ⟨_, _, rfl, _⟩ := h; rfl) | (obtain ⟨_, _, _, rfl, _⟩ := h; rfl) | (obtain ⟨_, _, _, _, rfl, _⟩ := h; rfl) | (obtain ⟨_, _, _, _, _, rfl, _⟩ := h; rfl) | (obtain ⟨_, _, _, _, _, _, rfl, _⟩ := h; rfl) | (obtain ⟨rfl | rfl, _⟩ := h <;> rfl)) k_law_new (by simp only [A_law_new, GdS, GdE, GdA, GdT, GdI, GdO, true_and, and_true, and_self]; repeat' (first | assumption | exact True.intro | apply And.intro)) w_law_new
def M_law_refused : List Str := ["_law_some", "e"]
theorem s_law_refused : FnScope M_law_refused ["_law_some"] (defScope (top 20)) := ⟨rfl, rfl, rfl, by decide +kernel, rfl, by decide +kernel, by decide +kernel⟩
theorem p_law_refused : parB ["_law_some"] none (defArgs (top 20)) = true := by decide +kernel
theorem k_law_refused : chkL A_law_refused ⟨M_law_refused, defScope (top 20), true, none, true⟩ (defBody (top 20)) = true := by decide +kernel
theorem f_law_refused (z : Zz w K mg base) : DL.FnR pw w K mg base (CX pw w) 6 (He.ga K "_law_refused") (lift K S_law_refused) := by
  obtain ⟨fd, F⟩ := z.d.defs (d := dF "_law_refused" 20) (List.mem_of_getElem? (i := 16) rfl)
  have zz : Zd (en w K mg base 5) fx := z.z.at 5
  have a0 : (en w K mg base 5).Fn "_law_new" S_law_new := zz.fn (mem 40 rfl) (f_law_new z) (Nat.le_of_ble_eq_true rfl)
  have a1 : (en w K mg base 5).Xt "BadSharing" tab_xBadSharing := zz.xt (mem 29 rfl) (mem 41 rfl)
  have a2 : (en w K mg base 5).Xi "NoName" tab_NoName := zz.xi (mem 31 rfl) (mem 42 rfl)
  have a3 : (en w K mg base 5).Xi "JoinError" tab_JoinError := zz.xi (mem 43 rfl) (mem 44 rfl)
  have a4 : (en w K mg base 5).Xf "at" cs_BadSharing := zz.xf (mem 45 rfl)
  exact def_ok' (en := en w K mg base 5) false F p_law_refused s_law_refused (zz.blt (by decide +kernel)) (fun rs μ Q X h => by first | (obtain ⟨rfl, _⟩ := h; rfl) | (obtain ⟨_, rfl, _⟩ := h; rfl) | (obtain ⟨_, _, rfl, _⟩ := h; rfl) | (obtain ⟨_, _, _, rfl, _⟩ := h; rfl) | (obtain ⟨_, _, _, _, rfl, _⟩ := h; rfl) | (obtain ⟨_, _, _, _, _, rfl, _⟩ := h; rfl) | (obtain ⟨_, _, _, _, _, _, rfl, _⟩ := h; rfl) | (obtain ⟨rfl | rfl, _⟩ := h <;> rfl)) k_law_refused (by simp only [A_law_refused, GdS, GdE, GdA, GdT, GdI, GdO, true_and, and_true, and_self]; repeat' (first | assumption | exact True.intro | apply And.intro)) w_law_refused
def M_law_called : List Str := ["_law_sharing", "_law_thing", "e"]
theorem s_law_called : FnScope M_law_called ["_law_sharing", "_law_thing"] (defScope (top 21)) := ⟨rfl, rfl, rfl, by decide +kernel, rfl, by decide +kernel, by decide +kernel⟩
theorem p_law_called : parB ["_law_sharing", "_law_thing"] none (defArgs (top 21)) = true := by decide +kernel
theorem k_law_called : chkL A_law_called ⟨M_law_called, defScope (top 21), true, none, true⟩ (defBody (top 21)) = true := by decide +kernel
theorem f_law_called (z : Zz w K mg base) : DL.FnR pw w K mg base (CX pw w) 3 (He.ga K "_law_called") (lift K S_law_called) := by
  obtain ⟨fd, F⟩ := z.d.defs (d := dF "_law_called" 21) (List.mem_of_getElem? (i := 17) rfl)
  have zz : Zd (en w K mg base 2) fx := z.z.at 2
  have a0 : (en w K mg base 2).Co "Sharing" S_Sharing_call := zz.co (mem 46 rfl) (f_Sharing_call z) (Nat.le_of_ble_eq_true rfl)
  have a1 : (en w K mg base 2).Xt "NoName" tab_xNoName := zz.xt (mem 31 rfl) (mem 47 rfl)
  have a2 : (en w K mg base 2).Xf "name" cs_NoName := zz.xf (mem 48 rfl)
  exact def_ok' (en := en w K mg base 2) false F p_law_called s_law_called (zz.blt (by decide +kernel)) (fun rs μ Q X h => by first | (obtain ⟨rfl, _⟩ := h; rfl) | (obtain ⟨_, rfl, _⟩ := h; rfl) | (obtain ⟨_, _, rfl, _⟩ := h; rfl) | (obtain ⟨_, _, _, rfl, _⟩ := h; rfl) | (obtain ⟨_, _, _, _, rfl, _⟩ := h; rfl) | (obtain ⟨_, _, _, _, _, rfl, _⟩ := h; rfl) | (obtain ⟨_, _, _, _, _, _, rfl, _⟩ := h; rfl) | (obtain ⟨rfl | rfl, _⟩ := h <;> rfl)) k_law_called (by simp only [A_law_called, GdS, GdE, GdA, GdT, GdI, GdO, true_and, and_true, and_self]; repeat' (first | assumption | exact True.intro | apply And.intro)) w_law_called
def M_law_classes : List Str := ["_law_source", "_law_names_here", "_law_left", "_law_found", "_law_turn", "_law_size", "_law_some"]
theorem s_law_classes : FnScope M_law_classes ["_law_source", "_law_names_here"] (defScope (top 22)) := ⟨rfl, rfl, rfl, by decide +kernel, rfl, by decide +kernel, by decide +kernel⟩
theorem p_law_classes : parB ["_law_source", "_law_names_here"] none (defArgs (top 22)) = true := by decide +kernel
theorem k_law_classes : chkL A_law_classes ⟨M_law_classes, defScope (top 22), true, none, true⟩ (defBody (top 22)) = true := by decide +kernel
theorem f_law_classes (z : Zz w K mg base) : DL.FnR pw w K mg base (CX pw w) 3 (He.ga K "_law_classes") (lift K S_law_classes) := by
  obtain ⟨fd, F⟩ := z.d.defs (d := dF "_law_classes" 22) (List.mem_of_getElem? (i := 18) rfl)
  have zz : Zd (en w K mg base 2) fx := z.z.at 2
  have a0 : (en w K mg base 2).Fn "_law_draw" S_law_draw := zz.fn (mem 35 rfl) (f_law_draw z) (Nat.le_of_ble_eq_true rfl)
  have a1 : (en w K mg base 2).Fn "_law_mixed" S_law_mixed := zz.fn (mem 37 rfl) (f_law_mixed z) (Nat.le_of_ble_eq_true rfl)
  exact def_ok' (en := en w K mg base 2) false F p_law_classes s_law_classes (zz.blt (by decide +kernel)) (fun rs μ Q X h => by first | (obtain ⟨rfl, _⟩ := h; rfl) | (obtain ⟨_, rfl, _⟩ := h; rfl) | (obtain ⟨_, _, rfl, _⟩ := h; rfl) | (obtain ⟨_, _, _, rfl, _⟩ := h; rfl) | (obtain ⟨_, _, _, _, rfl, _⟩ := h; rfl) | (obtain ⟨_, _, _, _, _, rfl, _⟩ := h; rfl) | (obtain ⟨_, _, _, _, _, _, rfl, _⟩ := h; rfl) | (obtain ⟨rfl | rfl, _⟩ := h <;> rfl)) k_law_classes (by simp only [A_law_classes, B_law_classes_0, GdS, GdE, GdA, GdT, GdI, GdO, true_and, and_true, and_self]; repeat' (first | assumption | exact True.intro | apply And.intro)) w_law_classes
def M_law_place : List Str := ["_law_some", "_law_name", "_law_names_here", "_law_other"]
theorem s_law_place : FnScope M_law_place ["_law_some", "_law_name"] (defScope (top 23)) := ⟨rfl, rfl, rfl, by decide +kernel, rfl, by decide +kernel, by decide +kernel⟩
theorem p_law_place : parB ["_law_some", "_law_name"] none (defArgs (top 23)) = true := by decide +kernel
theorem k_law_place : chkL A_law_place ⟨M_law_place, defScope (top 23), true, none, true⟩ (defBody (top 23)) = true := by decide +kernel
theorem f_law_place (z : Zz w K mg base) : DL.FnR pw w K mg base (CX pw w) 1 (He.ga K "_law_place") (lift K S_law_place) := by
  obtain ⟨fd, F⟩ := z.d.defs (d := dF "_law_place" 23) (List.mem_of_getElem? (i := 19) rfl)
  have zz : Zd (en w K mg base 0) fx := z.z.at 0
  exact def_ok' (en := en w K mg base 0) false F p_law_place s_law_place (zz.blt (by decide +kernel)) (fun rs μ Q X h => by first | (obtain ⟨rfl, _⟩ := h; rfl) | (obtain ⟨_, rfl, _⟩ := h; rfl) | (obtain ⟨_, _, rfl, _⟩ := h; rfl) | (obtain ⟨_, _, _, rfl, _⟩ := h; rfl) | (obtain ⟨_, _, _, _, rfl, _⟩ := h; rfl) | (obtain ⟨_, _, _, _, _, rfl, _⟩ := h; rfl) | (obtain ⟨_, _, _, _, _, _, rfl, _⟩ := h; rfl) | (obtain ⟨rfl | rfl, _⟩ := h <;> rfl)) k_law_place (by simp only [A_law_place, B_law_place_0, GdS, GdE, GdA, GdT, GdI, GdO, true_and, and_true, and_self]; repeat' (first | assumption | exact True.intro | apply And.intro)) w_law_place
def M_law_finer : List Str := ["_law_names_here", "_law_one", "_law_other", "_law_x", "_law_y"]
theorem s_law_finer : FnScope M_law_finer ["_law_names_here", "_law_one", "_law_other"] (defScope (top 24)) := ⟨rfl, rfl, rfl, by decide +kernel, rfl, by decide +kernel, by decide +kernel⟩
theorem p_law_finer : parB ["_law_names_here", "_law_one", "_law_other"] none (defArgs (top 24)) = true := by decide +kernel
theorem k_law_finer : chkL A_law_finer ⟨M_law_finer, defScope (top 24), true, none, true⟩ (defBody (top 24)) = true := by decide +kernel
theorem f_law_finer (z : Zz w K mg base) : DL.FnR pw w K mg base (CX pw w) 2 (He.ga K "_law_finer") (lift K S_law_finer) := by
  obtain ⟨fd, F⟩ := z.d.defs (d := dF "_law_finer" 24) (List.mem_of_getElem? (i := 20) rfl)
  have zz : Zd (en w K mg base 1) fx := z.z.at 1
  have a0 : (en w K mg base 1).Fn "_law_place" S_law_place := zz.fn (mem 49 rfl) (f_law_place z) (Nat.le_of_ble_eq_true rfl)
  exact def_ok' (en := en w K mg base 1) false F p_law_finer s_law_finer (zz.blt (by decide +kernel)) (fun rs μ Q X h => by first | (obtain ⟨rfl, _⟩ := h; rfl) | (obtain ⟨_, rfl, _⟩ := h; rfl) | (obtain ⟨_, _, rfl, _⟩ := h; rfl) | (obtain ⟨_, _, _, rfl, _⟩ := h; rfl) | (obtain ⟨_, _, _, _, rfl, _⟩ := h; rfl) | (obtain ⟨_, _, _, _, _, rfl, _⟩ := h; rfl) | (obtain ⟨_, _, _, _, _, _, rfl, _⟩ := h; rfl) | (obtain ⟨rfl | rfl, _⟩ := h <;> rfl)) k_law_finer (by simp only [A_law_finer, B_law_finer_0, B_law_finer_1, GdS, GdE, GdA, GdT, GdI, GdO, true_and, and_true, and_self]; repeat' (first | assumption | exact True.intro | apply And.intro)) w_law_finer
def M_law : List Str := ["_law_script", "_law_source", "_law_turn", "_law_names_here", "_law_some", "_law_others", "_law_one", "_law_other", "_law_wide", "_law_some_names", "_law_due", "_law_name", "_law_row", "_law_shared", "_law_odd", "_law_bad"]
theorem s_law : FnScope M_law ["_law_script"] (defScope (top 25)) := ⟨rfl, rfl, rfl, by decide +kernel, rfl, by decide +kernel, by decide +kernel⟩
theorem p_law : parB ["_law_script"] none (defArgs (top 25)) = true := by decide +kernel
theorem k_law : chkL A_law ⟨M_law, defScope (top 25), true, none, true⟩ (defBody (top 25)) = true := by decide +kernel
theorem f_law (d : He.SaysD [] fn K) : ∃ fd : FuncData, (∀ (s : Shared) (u : Value), BindsTo s fd ⟨[u], []⟩ [("_law_script", u)]) ∧ ∀ (w : World) (mg : Str → Option Value) (base : Heap), Zz w K mg base → DL.FnOk pw w K mg base (CX pw w) 7 (He.ga K "law") fd ["_law_script"] (lift K S_law) := by
  obtain ⟨fd, F⟩ := d.defs (d := dF "law" 25) (List.mem_of_getElem? (i := 21) rfl)
  have b := FunD.bindsA (ps := ["_law_script"]) F fun _ _ _ _ _ _ us hl => match us, hl with | [_], _ => rfl
  refine ⟨fd, fun s v => b s [v] rfl, fun w mg base z => ?_⟩
  have zz : Zd (en w K mg base 6) fx := z.z.at 6
  have a0 : (en w K mg base 6).Fn "_law_begin" S_law_begin := zz.fn (mem 50 rfl) (f_law_begin z) (Nat.le_of_ble_eq_true rfl)
  have a1 : (en w K mg base 6).Fn "_law_names" S_law_names := zz.fn (mem 51 rfl) (f_law_names z) (Nat.le_of_ble_eq_true rfl)
  have a2 : (en w K mg base 6).Fn "_law_classes" S_law_classes := zz.fn (mem 52 rfl) (f_law_classes z) (Nat.le_of_ble_eq_true rfl)
  have a3 : (en w K mg base 6).Fn "_law_new" S_law_new := zz.fn (mem 40 rfl) (f_law_new z) (Nat.le_of_ble_eq_true rfl)
  have a4 : (en w K mg base 6).Me "Sharing" "classes" S_Sharing_classes := zz.me (mem 25 rfl) (mem 53 rfl) (f_Sharing_classes z) (Nat.le_of_ble_eq_true rfl)
  have a5 : (en w K mg base 6).Ow .inn "Sharing" S_Sharing_contains := zz.ow (o := .inn) (mem 54 rfl) (mem 55 rfl) (f_Sharing_contains z) (Nat.le_of_ble_eq_true rfl)
  have a6 : (en w K mg base 6).Co "Sharing" S_Sharing_call := zz.co (mem 46 rfl) (f_Sharing_call z) (Nat.le_of_ble_eq_true rfl)
  have a7 : (en w K mg base 6).Fn "_law_place" S_law_place := zz.fn (mem 49 rfl) (f_law_place z) (Nat.le_of_ble_eq_true rfl)
  have a8 : (en w K mg base 6).Ow .le "Sharing" S_Sharing_le := zz.ow (o := .le) (mem 56 rfl) (mem 57 rfl) (f_Sharing_le z) (Nat.le_of_ble_eq_true rfl)
  have a9 : (en w K mg base 6).Fn "Sharing" S_Sharing := zz.cm false (mem 34 rfl) (mem 39 rfl) (f_Sharing_init z) (Nat.le_of_ble_eq_true rfl)
  have a10 : (en w K mg base 6).Fn "_law_finer" S_law_finer := zz.fn (mem 58 rfl) (f_law_finer z) (Nat.le_of_ble_eq_true rfl)
  have a11 : (en w K mg base 6).Ow .ne "Sharing" S_Sharing_eq := zz.ow (o := .ne) (mem 59 rfl) (mem 60 rfl) (f_Sharing_eq z) (Nat.le_of_ble_eq_true rfl)
  have a12 : (en w K mg base 6).Ow .eqd "Sharing" S_Sharing_eq := zz.ow (o := .eqd) (mem 59 rfl) (mem 61 rfl) (f_Sharing_eq z) (Nat.le_of_ble_eq_true rfl)
  have a13 : (en w K mg base 6).Ow .eq "Sharing" S_Sharing_eq := zz.ow (o := .eq) (mem 59 rfl) (mem 62 rfl) (f_Sharing_eq z) (Nat.le_of_ble_eq_true rfl)
  have a14 : (en w K mg base 6).Fn "_law_pick" S_law_pick := zz.fn (mem 36 rfl) (f_law_pick z) (Nat.le_of_ble_eq_true rfl)
  have a15 : (en w K mg base 6).Fn "_law_called" S_law_called := zz.fn (mem 63 rfl) (f_law_called z) (Nat.le_of_ble_eq_true rfl)
  have a16 : (en w K mg base 6).Fn "_law_refused" S_law_refused := zz.fn (mem 64 rfl) (f_law_refused z) (Nat.le_of_ble_eq_true rfl)
  exact def_fk (own := false) F s_law (fun rs μ Q X h => by first | (obtain ⟨rfl, _⟩ := h; rfl) | (obtain ⟨_, rfl, _⟩ := h; rfl) | (obtain ⟨_, _, rfl, _⟩ := h; rfl) | (obtain ⟨_, _, _, rfl, _⟩ := h; rfl) | (obtain ⟨_, _, _, _, rfl, _⟩ := h; rfl) | (obtain ⟨_, _, _, _, _, rfl, _⟩ := h; rfl) | (obtain ⟨_, _, _, _, _, _, rfl, _⟩ := h; rfl) | (obtain ⟨rfl | rfl, _⟩ := h <;> rfl)) (body_ok (en := en w K mg base 6) s_law.nd s_law.kind (zz.blt (by decide +kernel)) k_law (by simp only [A_law, B_law_0, B_law_1, R_law_2, R_law_3, R_law_4, R_law_5, R_law_6, R_law_7, R_law_8, R_law_9, R_law_10, R_law_11, R_law_12, R_law_13, R_law_14, R_law_15, R_law_16, R_law_17, B_law_18, R_law_19, R_law_20, GdS, GdE, GdA, GdT, GdI, GdO, true_and, and_true, and_self]; repeat' (first | assumption | exact True.intro | apply And.intro))) w_law
end
end DL.K28.HK
open PySem PySem.W PySem.Calls PyProof.Rows
theorem PySem.Challenge.cw_copiesatjoins_k28_sharings_made_holds : PySem.Challenge.rw_copiesatjoins_k28_sharings_made.Holds := by
  w_on; o_law
  refine HandSHeadRun.head_any (r := OpenLaw.row PySem.Challenge.rw_copiesatjoins_k28_sharings_made) (q := view (OpenLaw.row PySem.Challenge.rw_copiesatjoins_k28_sharings_made).prog [25]) (H := DL.K28.HK.hk) (ob := DL.K28.HK.ob) (M := 4000) (loose := DL.K28.HK.names) (d := HandSHeadRun.topDef (OpenLaw.row PySem.Challenge.rw_copiesatjoins_k28_sharings_made).prog 25) (kwd := []) DL.K28.HK.ob_eq
    (by kernel_rfl) (fun s => by kernel_rfl) DL.K28.HK.run (by kernel_rfl) (by kernel_rfl) (by kernel_rfl) (by rfl) (by first | assumption | decide +kernel) (by decide +kernel) ⟨rfl, rfl, rfl, rfl, rfl, by decide +kernel⟩ ?hw ?hc
  case hw => w_witness2
  case hc =>
    refine DL.law_end (l := PySem.Challenge.rw_copiesatjoins_k28_sharings_made) (most := 63) (k := 7) (arg := "_law_script") rfl (by decide) (by kernel_rfl) ⟨⟨rfl, by decide, by decide⟩, rfl⟩ ?_
    intro w mg fa h Y G hmg0
    obtain ⟨K, KX, cd, cx⟩ := Y
    have hmg : mg ("law" : PySem.Str) = some (.ref fa) := by
      have e : (HandSHeadRun.topDef (OpenLaw.row PySem.Challenge.rw_copiesatjoins_k28_sharings_made).prog 25).name = ("law" : PySem.Str) := by kernel_rfl
      rw [← e]
      exact hmg0
    have zd : ∀ base, DL.Zd (DL.K28.HK.en w K mg base 0) DL.K28.HK.fx := fun base => ⟨⟨h, KX, G⟩, List.all_eq_true.mp cx⟩
    have zz : ∀ base, DL.K28.HK.Zz w K mg base := fun base => ⟨zd base, cd⟩
    have e := hmg.symm.trans ((zd h).glo (x := "law") (DL.K28.HK.mem 21 rfl)).1
    cases e
    refine ⟨K, DL.lift K DL.S_law, KX, fun H a ns hS => (zd h).script (DL.K28.HK.mem 20 rfl) hS (fun Q X q => ⟨ns, rfl, q⟩) (fun _ => rfl), ?_⟩
    obtain ⟨fd, hb, hF⟩ := DL.K28.HK.f_law cd
    exact ⟨fd, hb, fun base _ _ => hF w mg base (zz base)⟩
